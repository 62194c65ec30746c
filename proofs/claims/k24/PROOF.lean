import PyProof.Rows.All
import Wide.All
import OpenK.AllK
import KE.SortData
import PyProof.Rows.SetFrom
import Wide.FinOn
import HandS.ForMost
import HandS.ForExc
import HandS.Codes
import KE.KeyNested
import KE.KDictKeyed
import HandS.Dict
import KE.DataMinMax
import KE.KDictCopyH
import HandS.Wide
import HandS.WideBits
import HandS.TupAny
import HandS.TupMul
import HandS.Deep
import HandS.IsInst
import HandS.Gcd
import HandS.Small
import HandS.Defaults
import HandS.Flow
import HandS.Star
import HandS.ExcIs
import HandS.Zip
import HandS.TupSets
import HandS.More
import HandS.Style
import HandS.CallLocal
import HandS.Replace
import HandS.TryOnly
import HandS.Iter
import PyProof.EnumMake
import PyProof.Draws
import HandS.ExcOwn
import HandS.Words
import HandS.Head0
import HandS.Head1
import HandS.Head2
import HandS.HeadEnd
import HandS.HeadHook1
import HandS.HeadHook2
import HandS.HeadHook3
import HandS.Head3
import PySem.Challenge.RW_solidseen_k24_moves_and_shapes_by_hand
set_option Elab.async false
set_option linter.all false
set_option maxRecDepth 100000
set_option maxHeartbeats 4000000
/-! EvDef: an evaluator of my own for plain Python: values with tuples (and lists that are no more changed) as trees, lists that are changed in a store. -/
namespace Ev
open PySem

/-- values: scr is the script, pl is a list that is never changed any more, ml i the list number i of the store, fn i a def of the text, exn the error that an except suite holds; dic is a dict that is never changed any more, its keys and values by turns (true: the keys are tuples, false: numbers and texts), md i the dict number i of the store -/
inductive PV where
  | non | bl (b : Bool) | int (i : Int) | str (x : List Nat)
  | tup (xs : List PV) | pl (xs : List PV) | scr (xs : List PV) | ml (i : Nat) | fn (i : Nat) | exn | dic (t : Bool) (xs : List PV) | md (i : Nat)

abbrev Sto := List (List PV)
abbrev Env := List (Option PV)
inductive R (α : Type) where
  | ok (a : α) (st : Sto)
  | ex (k : Nat) (a : Option PV) (st : Sto)
  | bad
def R.bind {α β : Type} (r : R α) (f : α → Sto → R β) : R β := match r with
  | .ok a st => f a st
  | .ex k a st => .ex k a st
  | .bad => .bad

inductive Op | add | sub | mul | fdiv | mod | pow
inductive Cm | eq | ne | lt | le | gt | ge | isin | notin
  deriving DecidableEq
inductive Ty | int | bool | str | tuple | list
/-- built-in functions -/
inductive Pr | str | len | int | abs | gcd | tuple | list | all | any | sum | max | min | max2 | min2 | sorted | set | sset
inductive Sm | split | join | index
inductive Me | append | extend | pop | popAt | insert | index

mutual
inductive E where
  | var (i : Nat)
  | int (i : Int) | str (x : List Nat) | bl (b : Bool) | non
  | gv (i : Nat) | fnv (i : Nat)
  | bin (op : Op) (m : Bool) (a b : E)
  | neg (a : E)
  | cmp (op : Cm) (a b : E)
  | chain (op op' : Cm) (a b c : E)
  | isn (neg : Bool) (a : E)
  | and_ (es : Es) | or_ (es : Es) | not_ (a : E)
  | ite (c a b : E)
  | tup (es : Es) | lst (m : Bool) (es : Es) | star (e : E)
  | idx (a b : E)
  | slc (m : Bool) (a : E) (lo hi : Es)
  | stp (m : Bool) (a : E) (lo hi st : Es)
  | call (f : Nat) (es : Es)
  | callk (f : Nat) (es : Es) (ks : List Nat) (kes : Es)
  | callv (f : E) (es : Es)
  | prim (p : Pr) (m : Bool) (es : Es)
  | isi (a : E) (ts : List Ty)
  | isx (a : E) (b : Bool)
  | lens (a : E)
  | sset (m : Bool) (a : E)
  | comp (m : Bool) (own : List (Str × Nat)) (t : Tg) (it : It) (cond : Es) (elt : E)
  | comp2 (m : Bool) (own : List (Str × Nat)) (t : Tg) (it : It) (cond : Es) (vs : List Nat) (t2 : Tg) (it2 : It) (cond2 : Es) (elt : E)
  | meth (k : Me) (o : E) (es : Es)
  | hole
  | smeth (k : Sm) (m : Bool) (o : E) (es : Es)
  | ind (ng : Bool) (d : Nat) (a : E)
  | idxd (d : Nat) (a : E)
  | isb (ng : Bool) (b : Bool) (a : E)
  | dnew (m : Bool)
  | ddisp (es : Es)
  | dget (o : E) (es : Es)
inductive Es where
  | nil
  | cons (e : E) (r : Es)
inductive It where
  | e (a : E) | range (es : Es) | zip (a b : E) | enum (a : E)
inductive Tg where
  | name (i : Nat) | tup (ts : Tgs) | sub (o i : E) | st2 (i : Nat) (t : Tg)
inductive Tgs where
  | nil
  | cons (t : Tg) (r : Tgs)
end

def isNilE : Es → Bool
  | .nil => true
  | .cons _ _ => false
def Tgs.len : Tgs → Nat
  | .nil => 0
  | .cons _ r => r.len + 1
mutual
inductive S where
  | set (t : Tg) (e : E)
  | aug (i : Nat) (op : Op) (e : E)
  | expr (e : E)
  | ret (e : E) | retN
  | iff (c : E) (a b : Ss)
  | whl (c : E) (b : Ss)
  | for_ (t : Tg) (it : It) (b : Ss)
  | raise (k : Nat)
  | raise1 (k : Nat) (e : E)
  | try_ (b : Ss) (hs : Hs)
  | brk | cnt | pass | hole
inductive Ss where
  | nil
  | cons (s : S) (r : Ss)
inductive Hs where
  | nil
  | cons (k : Nat) (slot : Option Nat) (b : Ss) (r : Hs)
end

/-- a statement's end -/
inductive F where
  | next (env : Env) (st : Sto)
  | ret (v : PV) (st : Sto)
  | brk (env : Env) (st : Sto)
  | cnt (env : Env) (st : Sto)
  | ex (k : Nat) (a : Option PV) (env : Env) (st : Sto)
  | bad

/-! ### values -/
mutual
def peq : PV → PV → Bool
  | .non, .non => true
  | .bl a, .bl b => a == b
  | .bl a, .int j => (if a then 1 else 0) == j
  | .int i, .bl b => i == (if b then 1 else 0)
  | .int i, .int j => i == j
  | .str x, .str y => x == y
  | .tup xs, .tup ys => peqs xs ys
  | .pl xs, .pl ys => peqs xs ys
  | _, _ => false
def peqs : List PV → List PV → Bool
  | [], [] => true
  | x :: xs, y :: ys => peq x y && peqs xs ys
  | _, _ => false
end
mutual
/-- plain data, at most d deep -/
def plain (d : Nat) : PV → Bool
  | .non => true | .bl _ => true | .int _ => true | .str x => x.all fun c => decide (c < 1114112)
  | .tup xs => match d with | 0 => false | d + 1 => plains d xs
  | .pl xs => match d with | 0 => false | d + 1 => plains d xs
  | .scr _ => false | .ml _ => false | .fn _ => false | .exn => false | .dic _ _ => false | .md _ => false
def plains (d : Nat) : List PV → Bool
  | [] => true
  | x :: xs => plain d x && plains d xs
end
mutual
/-- no list of the store from n on is named -/
def below (n : Nat) : PV → Bool
  | .tup xs => belows n xs
  | .pl xs => belows n xs
  | .scr xs => belows n xs
  | .ml i => decide (i < n)
  | .dic _ xs => belows n xs
  | .md i => decide (i < n)
  | _ => true
def belows (n : Nat) : List PV → Bool
  | [] => true
  | x :: xs => below n x && belows n xs
end
mutual
/-- the very same -/
def same : PV → PV → Bool
  | .non, .non => true
  | .bl a, .bl b => a == b
  | .int i, .int j => i == j
  | .str x, .str y => x == y
  | .tup xs, .tup ys => sames xs ys
  | .pl xs, .pl ys => sames xs ys
  | .scr xs, .scr ys => sames xs ys
  | .ml i, .ml j => i == j
  | .fn i, .fn j => i == j
  | .exn, .exn => true
  | .dic t xs, .dic u ys => t == u && sames xs ys
  | .md i, .md j => i == j
  | _, _ => false
def sames : List PV → List PV → Bool
  | [], [] => true
  | x :: xs, y :: ys => same x y && sames xs ys
  | _, _ => false
end

mutual
/-- a dict's key -/
def keyK (d : Nat) : PV → Option NestedKey
  | .non => some .none
  | .bl b => some (.num (if b then 1 else 0))
  | .int i => some (.num i)
  | .str x => some (.text ⟨x.toArray⟩)
  | .tup xs => match d with | 0 => none | d + 1 => (keysK d xs).map .tup
  | _ => none
def keysK (d : Nat) : List PV → Option (List NestedKey)
  | [] => some []
  | x :: xs => match keyK d x, keysK d xs with
    | some a, some r => some (a :: r)
    | _, _ => none
end
/-- a tuple that may be a key -/
def keyT : PV → Option NestedKey
  | .tup xs => keyK 8 (.tup xs)
  | _ => none
def keysT : List PV → Option (List NestedKey)
  | k :: _ :: r => match keyT k, keysT r with
    | some a, some l => some (a :: l)
    | _, _ => none
  | [] => some []
  | _ => none
/-- a number or a text as a key -/
def leafB : PV → Bool
  | .int _ => true
  | .str _ => true
  | _ => false
def leafsB : List PV → Bool
  | k :: _ :: r => leafB k && leafsB r
  | [] => true
  | _ => false
def dfind (k : PV) : List PV → Option PV
  | a :: v :: r => if peq a k then some v else dfind k r
  | _ => none
def dput (k v : PV) : List PV → List PV
  | a :: w :: r => if peq a k then a :: v :: r else a :: w :: dput k v r
  | _ => [k, v]
def dkeys : List PV → List PV
  | a :: _ :: r => a :: dkeys r
  | _ => []
/-- a display's pairs, stored one by one -/
def dputs : List PV → List PV → List PV
  | acc, k :: v :: r => dputs (dput k v acc) r
  | acc, _ => acc
/-! plain data as the library has them; rows that can be sorted -/
mutual
def toD : PV → PyData
  | .non => .none
  | .bl b => .bool b
  | .int i => .int i
  | .str x => .str ⟨x.toArray⟩
  | .tup xs => .tuple (toDs xs)
  | .pl xs => .list (toDs xs)
  | _ => .none
def toDs : List PV → List PyData
  | [] => []
  | x :: xs => toD x :: toDs xs
end
mutual
/-- numbers, texts, tuples of these -/
def pureD : PV → Bool
  | .int _ => true
  | .str _ => true
  | .tup xs => pureDs xs
  | _ => false
def pureDs : List PV → Bool
  | [] => true
  | x :: xs => pureD x && pureDs xs
end
def isTup1 : PV → Bool
  | .tup (_ :: _) => true
  | _ => false
def noTup : PV → Bool
  | .tup _ => false
  | _ => true
def sle (x y : PV) : Bool := !PySem.W.dataLt (toD y) (toD x)
def ins (x : PV) : List PV → List PV
  | [] => [x]
  | y :: r => if sle x y then x :: y :: r else y :: ins x r
def isort : List PV → List PV
  | [] => []
  | x :: r => ins x (isort r)
def sortOk (xs : List PV) : Bool := decide (xs.length ≤ 100000) && pureDs xs && plains 58 xs && (xs.all fun x => xs.all fun y => PySem.W.alike (toD x) (toD y)) && (xs.all isTup1 || xs.all noTup)

def lineOk {α : Type} (xs : List α) : Bool := decide (xs.length ≤ 16777216)
def mkT (xs : List PV) (st : Sto) : R PV := if lineOk xs then .ok (.tup xs) st else .bad
def mkL (m : Bool) (xs : List PV) (st : Sto) : R PV := if lineOk xs then (if m then .ok (.ml st.length) (st ++ [xs]) else .ok (.pl xs) st) else .bad

/-- a tuple's, a list's items -/
def items (st : Sto) : PV → Option (List PV)
  | .tup xs => some xs
  | .pl xs => some xs
  | .scr xs => some xs
  | .ml i => st[i]?
  | _ => none
def litems (st : Sto) : PV → Option (List PV)
  | .pl xs => some xs
  | .ml i => st[i]?
  | _ => none

/-- a dict whose keys are tuples -/
def ditems (st : Sto) : PV → Option (List PV)
  | .dic true xs => some xs
  | .md i => st[i]?
  | _ => none
/-- what stands at a key: none where it may not be asked -/
def dAt (st : Sto) (x k : PV) : Option (Option PV) := match x with
  | .dic false xs => if leafB k then some (dfind k xs) else none
  | x => match ditems st x, keyT k with
    | some xs, some _ => some (dfind k xs)
    | _, _ => none
def mulOk (i j : Int) : Bool := decide (i.natAbs < 18446744073709551616) || decide (j.natAbs < 18446744073709551616) || decide (i.natAbs.log2 + j.natAbs.log2 < 1000000)
def fdivOk (j : Int) : Bool := decide (0 < j) && decide (j.natAbs.log2 < 9000)
def powOk (i j : Int) : Bool := decide (0 ≤ j) && decide (j ≤ 1000000) && decide (i.natAbs < 18446744073709551616)
def repOk (k : Int) (n : Nat) : Bool := decide (-1000 ≤ k) && decide (k ≤ 1000) && decide (n ≤ 1000)
/-! texts -/
def catS (st : Sto) : PV → PV → R PV
  | .str a, .str b => if decide (a.length + b.length ≤ 16777216) then .ok (.str (a ++ b)) st else .bad
  | _, _ => .bad
def repS (st : Sto) : PV → Int → R PV
  | .str a, b => if decide (-1000 ≤ b) && decide (b ≤ 2000) && decide (a.length ≤ 1000) then .ok (.str (List.replicate b.toNat a).flatten) st else .bad
  | _, _ => .bad
def lenS (st : Sto) : PV → R PV
  | .str z => if decide (z.length ≤ 16777216) then .ok (.int (z.length : Nat)) st else .bad
  | _ => .bad
def slcS (st : Sto) (l h : Option Int) : PV → R PV
  | .str z => if decide (z.length ≤ 16777216) then .ok (.str ((z.drop (HT.sIx z.length 0 l)).take (HT.sIx z.length z.length h - HT.sIx z.length 0 l))) st else .bad
  | _ => .bad
def binop (m : Bool) (st : Sto) : Op → PV → PV → R PV
  | .add, .int a, .int b => .ok (.int (a + b)) st
  | .add, .tup a, .tup b => mkT (a ++ b) st
  | .add, x, y => match litems st x, litems st y with
    | some a, some b => mkL m (a ++ b) st
    | _, _ => catS st x y
  | .sub, .int a, .int b => .ok (.int (a - b)) st
  | .sub, .bl a, .bl b => .ok (.int ((if a then 1 else 0) - (if b then 1 else 0))) st
  | .mul, .int a, .int b => if mulOk a b then .ok (.int (a * b)) st else .bad
  | .mul, .tup a, .int b => if repOk b a.length && !a.isEmpty then mkT (List.replicate b.toNat a).flatten st else .bad
  | .mul, x, .int b => match litems st x with
    | some a => if decide (-1000 ≤ b) && decide (b ≤ 1000) && decide (a.length ≤ 1000) then mkL m (List.replicate b.toNat a).flatten st else .bad
    | none => repS st x b
  | .fdiv, .int a, .int b => if fdivOk b then .ok (.int (a / b)) st else if decide (b < 0) && decide (b.natAbs < 1073741824) then .ok (.int (a.fdiv b)) st else .bad
  | .mod, .int a, .int b => if decide (0 < b) then .ok (.int (a % b)) st else .bad
  | .pow, .int a, .int b => if powOk a b then .ok (.int (a ^ b.toNat)) st else .bad
  | _, _, _ => .bad

/-- plain equality of what the store holds, too -/
def deref (st : Sto) : PV → Option PV
  | .ml i => (st[i]?).map PV.pl
  | x => some x
def eqv (st : Sto) (x y : PV) : Option Bool := match deref st x, deref st y with
  | some a, some b => if plain 60 a && plain 60 b then some (peq a b) else none
  | _, _ => none
def intsV : List PV → Option (List Int)
  | [] => some []
  | .int i :: r => (intsV r).map (i :: ·)
  | _ :: _ => none
def strsV : List PV → Option (List (List Nat))
  | [] => some []
  | .str i :: r => (strsV r).map (i :: ·)
  | _ :: _ => none
def boolsV : List PV → Option (List Bool)
  | [] => some []
  | .bl i :: r => (boolsV r).map (i :: ·)
  | _ :: _ => none
/-- rows of ints in their order -/
def lexLt : (a b : List Int) → Bool
  | [], [] => false
  | [], _ :: _ => true
  | _ :: _, [] => false
  | x :: a, y :: b => if x = y then lexLt a b else decide (x < y)
/-- rows put into their order, each once -/
def rowsV : List PV → Option (List (List Int))
  | [] => some []
  | .tup xs :: r => match intsV xs with
    | some k => (rowsV r).map (k :: ·)
    | none => none
  | _ :: _ => none
def insI (x : List Int) : List (List Int) → List (List Int)
  | [] => [x]
  | y :: r => if x = y then y :: r else if lexLt x y then x :: y :: r else y :: insI x r
def sortI : List (List Int) → List (List Int)
  | [] => []
  | x :: r => insI x (sortI r)
def tupI (k : List Int) : PV := .tup (k.map .int)
/-- a sign in a text, a key in a dict -/
def signIn (st : Sto) : PV → PV → Option Bool
  | .str [c], .str z => some (decide (c ∈ z))
  | k, x => (dAt st x k).map (·.isSome)
def cmpop (st : Sto) : Cm → PV → PV → Option Bool
  | .eq, x, y => eqv st x y
  | .ne, x, y => (eqv st x y).map (!·)
  | .lt, .int a, .int b => some (decide (a < b))
  | .le, .int a, .int b => some (decide (a ≤ b))
  | .gt, .int a, .int b => some (decide (b < a))
  | .ge, .int a, .int b => some (decide (b ≤ a))
  | .lt, .tup a, .tup b => match intsV a, intsV b with
    | some xs, some ys => some (lexLt xs ys)
    | _, _ => none
  | .isin, x, y => match items st y with
    | some ys => if plain 59 x && plains 59 ys then some (ys.any fun z => peq z x) else none
    | none => signIn st x y
  | .notin, x, y => match items st y with
    | some ys => if plain 59 x && plains 59 ys then some (!ys.any fun z => peq z x) else none
    | none => (signIn st x y).map (!·)
  | _, _, _ => none

def truth (st : Sto) : PV → Option Bool
  | .non => some false
  | .bl b => some b
  | .int i => some (decide (i ≠ 0))
  | .tup xs => some (!xs.isEmpty)
  | .pl xs => some (!xs.isEmpty)
  | .ml i => (st[i]?).map fun xs => !xs.isEmpty
  | _ => none

/-- the place that an index names -/
def ixN (n : Nat) (i : Int) : Option Nat :=
  if 0 ≤ i then (if i < n then some i.toNat else none)
  else if -(n : Int) ≤ i then some (i + n).toNat else none
def atI (xs : List PV) (i : Int) : Option PV := (ixN xs.length i).bind fun j => xs[j]?
def cut (n : Nat) (lo : Nat) (hi : Nat) (xs : List PV) : List PV := (xs.drop lo).take (hi - lo)

def tyIs : PV → List Ty → Option Bool
  | .non, _ => some false
  | .bl _, ts => some (ts.any fun | .int => true | .bool => true | _ => false)
  | .int _, ts => some (ts.any fun | .int => true | _ => false)
  | .str _, ts => some (ts.any fun | .str => true | _ => false)
  | .tup _, ts => some (ts.any fun | .tuple => true | _ => false)
  | .pl _, ts => some (ts.any fun | .list => true | _ => false)
  | .scr _, ts => some (ts.any fun | .list => true | _ => false)
  | .ml _, ts => some (ts.any fun | .list => true | _ => false)
  | _, _ => none
def imax : List Int → Int → Int
  | [], m => m
  | x :: r, m => imax r (if x > m then x else m)
def imin : List Int → Int → Int
  | [], m => m
  | x :: r, m => imin r (if x < m then x else m)
def sortS (m : Bool) (st : Sto) (x : PV) : R PV := match ditems st x with
  | some xs => if sortOk (dkeys xs) then mkL m (isort (dkeys xs)) st else .bad
  | none => .bad
/-- the first of the least -/
def leastV : PV → List PV → PV
  | x, [] => x
  | x, y :: r => leastV (if PySem.W.dataLt (toD y) (toD x) then y else x) r
def greatestV : PV → List PV → PV
  | x, [] => x
  | x, y :: r => greatestV (if PySem.W.dataLt (toD x) (toD y) then y else x) r
def minS (st : Sto) (x : PV) : R PV := match items st x with
  | some (y :: r) => if sortOk (y :: r) then .ok (leastV y r) st else .bad
  | _ => match ditems st x with
    | some xs => match dkeys xs with
      | y :: r => if sortOk (y :: r) then .ok (leastV y r) st else .bad
      | [] => .bad
    | none => .bad
def maxS (st : Sto) (x : PV) : R PV := match items st x with
  | some (y :: r) => if sortOk (y :: r) then .ok (greatestV y r) st else .bad
  | _ => .bad
def prim (m : Bool) (st : Sto) : Pr → List PV → R PV
  | .len, [x] => match items st x with
    | some xs => .ok (.int (xs.length : Nat)) st
    | none => lenS st x
  | .str, [.int i] => if decide (0 ≤ i) && decide (i.natAbs.log2 < 1920) then .ok (.str (TL.numL i.toNat)) st else .bad
  | .int, [.str z] => if z.all (fun c => decide (48 ≤ c) && decide (c ≤ 57)) && (!z.isEmpty && decide (z.length ≤ 640)) then .ok (.int ((NumText.digitsVal z : Nat) : Int)) st else .bad
  | .int, [.int i] => .ok (.int i) st
  | .int, [.bl b] => .ok (.int (if b then 1 else 0)) st
  | .abs, [.int i] => .ok (.int (if i < 0 then -i else i)) st
  | .gcd, [.int a, .int b] => .ok (.int (Nat.gcd a.natAbs b.natAbs : Nat)) st
  | .tuple, [x] => match items st x with
    | some xs => mkT xs st
    | none => .bad
  | .list, [x] => match items st x with
    | some xs => mkL m xs st
    | none => .bad
  | .all, [x] => match (litems st x).bind boolsV with
    | some bs => .ok (.bl (bs.all id)) st
    | none => .bad
  | .any, [x] => match (litems st x).bind boolsV with
    | some bs => .ok (.bl (bs.any id)) st
    | none => .bad
  | .sum, [x] => match (litems st x).bind intsV with
    | some ns => .ok (.int ns.sum) st
    | none => .bad
  | .max, [x] => match (litems st x).bind intsV with
    | some (n :: ns) => .ok (.int (imax ns n)) st
    | _ => maxS st x
  | .min, [x] => match (litems st x).bind intsV with
    | some (n :: ns) => .ok (.int (imin ns n)) st
    | _ => minS st x
  | .sorted, [x] => match litems st x with
    | some xs => if sortOk xs then mkL m (isort xs) st else .bad
    | none => sortS m st x
  | .max2, [.int a, .int b] => .ok (.int (if b > a then b else a)) st
  | .min2, [.int a, .int b] => .ok (.int (if b < a then b else a)) st
  | .max2, [.tup a, .tup b] => if sortOk [.tup a, .tup b] then .ok (if PySem.W.dataLt (toD (.tup a)) (toD (.tup b)) then .tup b else .tup a) st else .bad
  | .min2, [.tup a, .tup b] => if sortOk [.tup a, .tup b] then .ok (if PySem.W.dataLt (toD (.tup b)) (toD (.tup a)) then .tup b else .tup a) st else .bad
  | _, _ => .bad

def isL : PV → Bool
  | .pl _ => true
  | .ml _ => true
  | _ => false
def xitems (st : Sto) : PV → Option (List PV)
  | .tup xs => some xs
  | x => litems st x
def firstIx (y : PV) : List PV → Option Nat
  | [] => none
  | x :: r => if peq x y then some 0 else (firstIx y r).map (· + 1)
def meth (st : Sto) : Me → PV → List PV → R PV
  | .append, .ml i, [x] => match st[i]? with
    | some xs => if decide (xs.length < 16777216) then .ok .non (st.set i (xs ++ [x])) else .bad
    | none => .bad
  | .extend, .ml i, [y] => match st[i]?, xitems st y with
    | some xs, some ys => if decide (xs.length + ys.length ≤ 16777216) then .ok .non (st.set i (xs ++ ys)) else .bad
    | _, _ => .bad
  | .pop, .ml i, [] => match st[i]? with
    | some xs => match xs[xs.length - 1]? with
      | some y => .ok y (st.set i xs.dropLast)
      | none => .bad
    | none => .bad
  | .popAt, .ml i, [.int j] => match st[i]? with
    | some xs => if decide (xs.length ≤ 16777216) then (match ixN xs.length j with
      | some k => match xs[k]? with
        | some y => .ok y (st.set i (xs.eraseIdx k))
        | none => .bad
      | none => .bad) else .bad
    | none => .bad
  | .insert, .ml i, [.int j, y] => match st[i]? with
    | some xs => if decide (xs.length < 16777216) && decide (0 ≤ j) && decide (j ≤ 16777216) then .ok .non (st.set i (xs.take j.toNat ++ [y] ++ xs.drop j.toNat)) else .bad
    | none => .bad
  | .index, x, [y] => match litems st x with
    | some xs => if plain 58 y && plains 58 xs then (match firstIx y xs with
      | some k => .ok (.int (k : Nat)) st
      | none => .bad) else .bad
    | none => .bad
  | _, _, _ => .bad

/-- methods of a text -/
def smeth (m : Bool) (st : Sto) : Sm → PV → List PV → R PV
  | .split, .str a, [.str b] => if !b.isEmpty && (b.all (fun c => decide (c < 256)) && decide (a.length + 2 ≤ 16777216)) then mkL m ((TL.spl b 0 [] a).map .str) st else .bad
  | .join, .str a, [x] => match (items st x).bind strsV with
    | some ys => if decide ((ys.map (·.length)).sum + ys.length * a.length ≤ 16777216) then .ok (.str (TL.joinL a ys)) st else .bad
    | none => .bad
  | .index, .str a, [.str b] => match Builtin.Str.occurrences (SX.S a) (SX.S b) 0 a.length 1 with
    | i :: _ => .ok (.int (i : Nat)) st
    | [] => .bad
  | _, _, _ => .bad

/-! ### what calls come to (the callee's own evaluation is handed in) -/
abbrev Cl := Nat → List PV → Sto → R PV
/-- the program's constants -/
abbrev Gv := List PV

def upto (n : Int) : Nat → Int → List PV
  | 0, _ => []
  | k + 1, i => .int i :: upto n k (i + 1)
/-- .. with a step -/
def stepsTo (c : Int) : Nat → Int → List PV
  | 0, _ => []
  | k + 1, i => .int i :: stepsTo c k (i + c)
def rangeS : List PV → Option (List PV)
  | [.int a, .int b, .int c] => if decide (c ≠ 0) && decide (c.natAbs < 1073741824) && Builtin.Range.small a b c && decide (0 ≤ Builtin.Range.rangeSize a b c) then some (stepsTo c (Builtin.Range.rangeSize a b c).toNat a) else none
  | _ => none
def rangeOf : List PV → Option (List PV)
  | [.int n] => if decide (-4611686018427387904 ≤ n) && decide (n < 4611686018427387904) then some (upto n n.toNat 0) else none
  | [.int a, .int b] => if decide (-4611686018427387904 ≤ a) && decide (a < 4611686018427387904) && decide (-4611686018427387904 ≤ b) && decide (b < 4611686018427387904) then some (upto b (b - a).toNat a) else none
  | vs => rangeS vs
def zipT : List PV → List PV → List PV
  | x :: xs, y :: ys => .tup [x, y] :: zipT xs ys
  | _, _ => []
def enumT : Int → List PV → List PV
  | _, [] => []
  | i, x :: xs => .tup [.int i, x] :: enumT (i + 1) xs

def wipe (env : Env) : List Nat → Env
  | [] => env
  | v :: vs => (wipe env vs).set v none

/-- what a loop walks: the items; the lists of the store that must stay as they are -/
abbrev Src := List PV × List (Nat × List PV)
def keeps (st : Sto) : List (Nat × List PV) → Bool
  | [] => true
  | (i, xs) :: r => (match st[i]? with | some ys => sames xs ys | none => false) && keeps st r
def srcOf (st : Sto) : PV → Option Src
  | .tup xs => some (xs, [])
  | .pl xs => some (xs, [])
  | .scr xs => some (xs, [])
  | .ml i => (st[i]?).map fun xs => (xs, [(i, xs)])
  | _ => none
/-- .. a text's signs, too -/
def srcS (st : Sto) : PV → Option Src
  | .str z => some (z.map fun c => .str [c], [])
  | .dic true xs => some (dkeys xs, [])
  | .md i => (st[i]?).map fun xs => (dkeys xs, [(i, xs)])
  | x => srcOf st x
/-! ### expressions -/
/-- the turns of a comprehension -/
def cLoop (ks : List (Nat × List PV)) (turn : PV → Sto → R (Option PV)) : List PV → Sto → R (List PV)
  | [], st => .ok [] st
  | x :: xs, st => (turn x st).bind fun o st => if keeps st ks then (cLoop ks turn xs st).bind fun r st => .ok (match o with | some v => v :: r | none => r) st else .bad
/-- .. of one with two fors -/
def cLoop2 (ks : List (Nat × List PV)) (turn : PV → Sto → R (List PV)) : List PV → Sto → R (List PV)
  | [], st => .ok [] st
  | x :: xs, st => (turn x st).bind fun o st => if keeps st ks then (cLoop2 ks turn xs st).bind fun r st => .ok (o ++ r) st else .bad
/-- errors do not leave a comprehension's block -/
def R.hush {α : Type} : R α → R α
  | .ok a st => .ok a st
  | .ex _ _ _ => .bad
  | .bad => .bad
/-- a table of the module, written as pairs: what stands at a text -/
def lookT : List PV → List Nat → Option PV
  | .tup [.str x, v] :: r, k => if x = k then some v else lookT r k
  | _, _ => none
def toR {α : Type} (o : Option α) (st : Sto) : R α := match o with
  | some a => .ok a st
  | none => .bad
def idxS (st : Sto) : PV → PV → R PV
  | .str z, .int i => if decide (z.length ≤ 16777216) then toR ((ixN z.length i).bind fun j => (z[j]?).map fun c => .str [c]) st else .bad
  | x, k => toR ((dAt st x k).bind id) st
/-- a store into a dict -/
def asgS (st : Sto) (env : Env) (x k v : PV) : R Env := match x with
  | .md i => match st[i]?, keyT k with
    | some xs, some _ => if decide (xs.length < 33554432) then .ok env (st.set i (dput k v xs)) else .bad
    | _, _ => .bad
  | _ => .bad
def dget (st : Sto) (x : PV) : List PV → R PV
  | [k] => toR ((dAt st x k).map fun o => o.getD .non) st
  | [k, d] => toR ((dAt st x k).map fun o => o.getD d) st
  | _ => .bad
def isDic : PV → Bool
  | .dic _ _ => true
  | .md _ => true
  | _ => false
/-- keywords' values behind the positional ones: where each parameter's value stands -/
def argI (np n : Nat) (ks : List Nat) : List Nat := (List.range np).map fun i => if i < n then i else n + ks.idxOf i
def pick {α : Type} (idx : List Nat) (xs : List α) : List α := idx.filterMap (xs[·]?)
/-- the places of a slice with a step -/
def stpI (n : Nat) (lo hi sp : Option Int) : List Nat := sliceRange (sliceBounds lo hi sp n).1 (sliceBounds lo hi sp n).2.1 (sliceBounds lo hi sp n).2.2
mutual
def evE (cl : Cl) (gs : Gv) (ar : Nat → Nat) : E → Env → Sto → R PV
  | .var i, env, st => match env[i]? with
    | some (some v) => .ok v st
    | _ => .bad
  | .int i, _, st => .ok (.int i) st
  | .str x, _, st => .ok (.str x) st
  | .bl b, _, st => .ok (.bl b) st
  | .non, _, st => .ok .non st
  | .gv i, _, st => toR gs[i]? st
  | .fnv i, _, st => .ok (.fn i) st
  | .bin op m a b, env, st => (evE cl gs ar a env st).bind fun x st => (evE cl gs ar b env st).bind fun y st => binop m st op x y
  | .neg a, env, st => (evE cl gs ar a env st).bind fun x st => match x with
    | .int i => .ok (.int (-i)) st
    | _ => .bad
  | .cmp op a b, env, st => (evE cl gs ar a env st).bind fun x st => (evE cl gs ar b env st).bind fun y st => (toR (cmpop st op x y) st).bind fun c st => .ok (.bl c) st
  | .chain op op' a b c, env, st => (evE cl gs ar a env st).bind fun x st => (evE cl gs ar b env st).bind fun y st => (toR (cmpop st op x y) st).bind fun k st =>
    if k then (evE cl gs ar c env st).bind fun z st => (toR (cmpop st op' y z) st).bind fun k st => .ok (.bl k) st else .ok (.bl false) st
  | .isn ng a, env, st => (evE cl gs ar a env st).bind fun x st => .ok (.bl (match x with | .non => !ng | _ => ng)) st
  | .and_ es, env, st => evAnd cl gs ar es env st
  | .or_ es, env, st => evOr cl gs ar es env st
  | .not_ a, env, st => (evE cl gs ar a env st).bind fun x st => (toR (truth st x) st).bind fun c st => .ok (.bl (!c)) st
  | .ite c a b, env, st => (evE cl gs ar c env st).bind fun x st => (toR (truth st x) st).bind fun k st => if k then evE cl gs ar a env st else evE cl gs ar b env st
  | .tup es, env, st => (evEs cl gs ar es env st).bind fun vs st => mkT vs st
  | .lst m es, env, st => (evEs cl gs ar es env st).bind fun vs st => mkL m vs st
  | .star _, _, _ => .bad
  | .idx a b, env, st => (evE cl gs ar a env st).bind fun x st => (evE cl gs ar b env st).bind fun y st => match items st x, y with
    | some xs, .int i => toR (atI xs i) st
    | _, _ => idxS st x y
  | .slc m a lo hi, env, st => (evE cl gs ar a env st).bind fun x st => (evOp cl gs ar lo env st).bind fun l st => (evOp cl gs ar hi env st).bind fun h st =>
    match x with
    | .tup xs => mkT (cut xs.length (HT.sIx xs.length 0 l) (HT.sIx xs.length xs.length h) xs) st
    | x => match items st x with
      | some xs => mkL m (cut xs.length (HT.sIx xs.length 0 l) (HT.sIx xs.length xs.length h) xs) st
      | none => slcS st l h x
  | .stp m a lo hi sp, env, st => (evE cl gs ar a env st).bind fun x st => (evOp cl gs ar lo env st).bind fun l st => (evOp cl gs ar hi env st).bind fun h st => (evOp cl gs ar sp env st).bind fun p st =>
    match x with
    | .tup _ => .bad
    | x => match items st x with
      | some xs => if p = some 0 then .bad else mkL m (pick (stpI xs.length l h p) xs) st
      | none => .bad
  | .call f es, env, st => (evEs cl gs ar es env st).bind fun vs st => cl f vs st
  | .callk f es ks kes, env, st => (evEs cl gs ar es env st).bind fun vs st => (evEs cl gs ar kes env st).bind fun ws st => cl f (pick (argI (ar f) vs.length ks) (vs ++ ws)) st
  | .callv g es, env, st => (evE cl gs ar g env st).bind fun x st => match x with
    | .fn f => if ar f = 0 then (if isNilE es then cl f [] st else .bad) else (evEs cl gs ar es env st).bind fun vs st => cl f vs st
    | _ => .bad
  | .prim p m es, env, st => (evEs cl gs ar es env st).bind fun vs st => prim m st p vs
  | .isi a ts, env, st => (evE cl gs ar a env st).bind fun x st => (toR (tyIs x ts) st).bind fun b st => .ok (.bl b) st
  | .isx _ b, _, st => .ok (.bl b) st
  | .lens a, env, st => (evE cl gs ar a env st).bind fun x st => match (litems st x).bind intsV with
    | some ns => if decide (ns.length ≤ 4000) then .ok (.int (((ns.foldl PyProof.Rows.step_dedup []).length : Nat) : Int)) st else .bad
    | none => .bad
  | .sset m a, env, st => (evE cl gs ar a env st).bind fun x st => match (litems st x).bind rowsV with
    | some rows => if decide (rows.length < 64) && (rows.all fun r => !r.isEmpty) then mkL m ((sortI rows).map tupI) st else .bad
    | none => .bad
  | .comp m own t it cond elt, env, st => (evIt cl gs ar it env st).bind fun src st =>
    (cLoop src.2 (fun x st => ((asg cl gs ar t x (wipe env (own.map (·.2))) st).bind fun env st => (evCond cl gs ar cond env st).bind fun b st =>
      if b then (evE cl gs ar elt env st).bind fun v st => .ok (some v) st else .ok none st).hush) src.1 st).bind fun vs st => mkL m vs st
  | .comp2 m own t it cond vs t2 it2 cond2 elt, env, st => (evIt cl gs ar it env st).bind fun src st =>
    (cLoop2 src.2 (fun x st => ((asg cl gs ar t x (wipe env (own.map (·.2))) st).bind fun env st => (evCond cl gs ar cond env st).bind fun b st =>
      if b then (evIt cl gs ar it2 env st).bind fun src st =>
        cLoop src.2 (fun x st => (asg cl gs ar t2 x (wipe env vs) st).bind fun env st => (evCond cl gs ar cond2 env st).bind fun b st =>
          if b then (evE cl gs ar elt env st).bind fun v st => .ok (some v) st else .ok none st) src.1 st
      else .ok [] st).hush) src.1 st).bind fun vs st => mkL m vs st
  | .meth k o es, env, st => (evE cl gs ar o env st).bind fun x st => match isL x with
    | true => (evEs cl gs ar es env st).bind fun vs st => meth st k x vs
    | false => .bad
  | .hole, _, _ => .bad
  | .smeth k m o es, env, st => (evE cl gs ar o env st).bind fun x st => match x with
    | .str _ => (evEs cl gs ar es env st).bind fun vs st => smeth m st k x vs
    | _ => .bad
  | .ind ng d a, env, st => (evE cl gs ar a env st).bind fun x st => match gs[d]?, x with
    | some (.tup tb), .str k => .ok (.bl ((lookT tb k).isSome != ng)) st
    | _, _ => .bad
  | .idxd d a, env, st => (evE cl gs ar a env st).bind fun x st => match gs[d]?, x with
    | some (.tup tb), .str k => toR (lookT tb k) st
    | _, _ => .bad
  | .isb ng b a, env, st => (evE cl gs ar a env st).bind fun x st => match x with
    | .bl c => .ok (.bl ((b == c) != ng)) st
    | .non => .ok (.bl ng) st
    | _ => .bad
  | .dnew m, _, st => if m then .ok (.md st.length) (st ++ [[]]) else .ok (.dic true []) st
  | .ddisp es, env, st => (evEs cl gs ar es env st).hush.bind fun vs st => if leafsB vs && decide (vs.length ≤ 30) then .ok (.dic false (dputs [] vs)) st else .bad
  | .dget o es, env, st => (evE cl gs ar o env st).bind fun x st => if isDic x then (evEs cl gs ar es env st).bind fun vs st => dget st x vs else .bad
/-- an argument list -/
def evEs (cl : Cl) (gs : Gv) (ar : Nat → Nat) : Es → Env → Sto → R (List PV)
  | .nil, _, st => .ok [] st
  | .cons e r, env, st => match e with
    | .star e => (evE cl gs ar e env st).bind fun x st => (toR (items st x) st).bind fun xs st => (evEs cl gs ar r env st).bind fun vs st => .ok (xs ++ vs) st
    | e => (evE cl gs ar e env st).bind fun v st => (evEs cl gs ar r env st).bind fun vs st => .ok (v :: vs) st
/-- a part of a slice -/
def evOp (cl : Cl) (gs : Gv) (ar : Nat → Nat) : Es → Env → Sto → R (Option Int)
  | .nil, _, st => .ok none st
  | .cons e _, env, st => (evE cl gs ar e env st).bind fun x st => match x with
    | .int i => .ok (some i) st
    | _ => .bad
def evAnd (cl : Cl) (gs : Gv) (ar : Nat → Nat) : Es → Env → Sto → R PV
  | .nil, _, _ => .bad
  | .cons e r, env, st => match r with
    | .nil => evE cl gs ar e env st
    | .cons _ _ => (evE cl gs ar e env st).bind fun x st => (toR (truth st x) st).bind fun c st => if c then evAnd cl gs ar r env st else .ok x st
def evOr (cl : Cl) (gs : Gv) (ar : Nat → Nat) : Es → Env → Sto → R PV
  | .nil, _, _ => .bad
  | .cons e r, env, st => match r with
    | .nil => evE cl gs ar e env st
    | .cons _ _ => (evE cl gs ar e env st).bind fun x st => (toR (truth st x) st).bind fun c st => if c then .ok x st else evOr cl gs ar r env st
def evCond (cl : Cl) (gs : Gv) (ar : Nat → Nat) : Es → Env → Sto → R Bool
  | .nil, _, st => .ok true st
  | .cons e _, env, st => (evE cl gs ar e env st).bind fun x st => toR (truth st x) st
def evIt (cl : Cl) (gs : Gv) (ar : Nat → Nat) : It → Env → Sto → R Src
  | .e a, env, st => (evE cl gs ar a env st).bind fun x st => toR (srcS st x) st
  | .range es, env, st => (evEs cl gs ar es env st).bind fun vs st => (toR (rangeOf vs) st).bind fun xs st => .ok (xs, []) st
  | .zip a b, env, st => (evE cl gs ar a env st).bind fun x st => (evE cl gs ar b env st).bind fun y st => match srcOf st x, srcOf st y with
    | some xs, some ys => .ok (zipT xs.1 ys.1, xs.2 ++ ys.2) st
    | _, _ => .bad
  | .enum a, env, st => (evE cl gs ar a env st).bind fun x st => match srcOf st x with
    | some xs => .ok (enumT 0 xs.1, xs.2) st
    | none => .bad
def asg (cl : Cl) (gs : Gv) (ar : Nat → Nat) : Tg → PV → Env → Sto → R Env
  | .name i, v, env, st => if i < env.length then .ok (env.set i (some v)) st else .bad
  | .tup ts, v, env, st => (toR (items st v) st).bind fun xs st => if xs.length = ts.len then asgs cl gs ar ts xs env st else .bad
  | .sub o i, v, env, st => (evE cl gs ar o env st).hush.bind fun x st => (evE cl gs ar i env st).hush.bind fun y st => match x, y with
    | .ml k, .int j => match st[k]? with
      | some xs => match ixN xs.length j with
        | some n => .ok env (st.set k (xs.set n v))
        | none => .bad
      | none => .bad
    | _, _ => asgS st env x y v
  | .st2 i t, v, env, st => (toR (items st v) st).bind fun xs st => match xs.getLast? with
    | some y => if i < env.length then asg cl gs ar t y (env.set i (some (.pl xs.dropLast))) st else .bad
    | none => .bad
def asgs (cl : Cl) (gs : Gv) (ar : Nat → Nat) : Tgs → List PV → Env → Sto → R Env
  | .nil, [], env, st => .ok env st
  | .cons t r, x :: xs, env, st => (asg cl gs ar t x env st).bind fun env st => asgs cl gs ar r xs env st
  | _, _, _, _ => .bad
end

/-! ### statements -/
def wLoop (c : Env → Sto → R Bool) (b : Env → Sto → F) : Nat → Env → Sto → F
  | 0, _, _ => .bad
  | n + 1, env, st => match c env st with
    | .ok true st => match b env st with
      | .next env st => wLoop c b n env st
      | .cnt env st => wLoop c b n env st
      | .brk env st => .next env st
      | r => r
    | .ok false st => .next env st
    | .ex k a st => .ex k a env st
    | .bad => .bad
def fLoop (ks : List (Nat × List PV)) (g : PV → Env → Sto → R Env) (b : Env → Sto → F) : List PV → Env → Sto → F
  | [], env, st => .next env st
  | x :: xs, env, st => match g x env st with
    | .ok env1 st => match b env1 st with
      | .next env st => if keeps st ks then fLoop ks g b xs env st else .bad
      | .cnt env st => if keeps st ks then fLoop ks g b xs env st else .bad
      | .brk env st => .next env st
      | r => r
    | .ex k a st => .ex k a env st
    | .bad => .bad
def F.then (r : F) (f : Env → Sto → F) : F := match r with
  | .next env st => f env st
  | r => r
def R.stmt {α : Type} (r : R α) (env : Env) (f : α → Sto → F) : F := match r with
  | .ok a st => f a st
  | .ex k a st => .ex k a env st
  | .bad => .bad
def wFuel : Nat := 1606938044258990275541962092341162602522202993782792835301376
mutual
def evS (cl : Cl) (gs : Gv) (ar : Nat → Nat) : S → Env → Sto → F
  | .set t e, env, st => (evE cl gs ar e env st).stmt env fun v st => (asg cl gs ar t v env st).stmt env fun env st => .next env st
  | .aug i op e, env, st => match env[i]? with
    | some (some x) => (evE cl gs ar e env st).stmt env fun y st => match x, y with
      | .int _, .int _ => (binop false st op x y).stmt env fun v st => .next (env.set i (some v)) st
      | _, _ => .bad
    | _ => .bad
  | .expr e, env, st => (evE cl gs ar e env st).stmt env fun _ st => .next env st
  | .ret e, env, st => (evE cl gs ar e env st).stmt env fun v st => .ret v st
  | .retN, _, st => .ret .non st
  | .iff c a b, env, st => (evE cl gs ar c env st).stmt env fun x st => (toR (truth st x) st).stmt env fun k st => if k then evSs cl gs ar a env st else evSs cl gs ar b env st
  | .whl c b, env, st => wLoop (fun env st => (evE cl gs ar c env st).bind fun x st => toR (truth st x) st) (fun env st => evSs cl gs ar b env st) wFuel env st
  | .for_ t it b, env, st => (evIt cl gs ar it env st).stmt env fun src st => fLoop src.2 (fun x env st => asg cl gs ar t x env st) (fun env st => evSs cl gs ar b env st) src.1 env st
  | .raise k, env, st => .ex k none env st
  | .raise1 _ _, _, _ => .bad
  | .try_ b hs, env, st => match evSs cl gs ar b env st with
    | .ex k a env st => evHs cl gs ar hs k a env st
    | r => r
  | .brk, env, st => .brk env st
  | .cnt, env, st => .cnt env st
  | .pass, env, st => .next env st
  | .hole, _, _ => .bad
def evSs (cl : Cl) (gs : Gv) (ar : Nat → Nat) : Ss → Env → Sto → F
  | .nil, env, st => .next env st
  | .cons s r, env, st => (evS cl gs ar s env st).then fun env st => evSs cl gs ar r env st
def evHs (cl : Cl) (gs : Gv) (ar : Nat → Nat) : Hs → Nat → Option PV → Env → Sto → F
  | .nil, k, a, env, st => .ex k a env st
  | .cons c slot b r, k, a, env, st => if k = c then
      (match slot with
      | none => (match evSs cl gs ar b env st with
        | .next env st => .next env st
        | .brk env st => .brk env st
        | .cnt env st => .cnt env st
        | .ret v st => .ret v st
        | _ => .bad)
      | some i => if i < env.length then (match evSs cl gs ar b (env.set i none) st with
        | .next env st => .next (env.set i none) st
        | .brk env st => .brk (env.set i none) st
        | .cnt env st => .cnt (env.set i none) st
        | .ret v st => .ret v st
        | _ => .bad) else .bad)
    else evHs cl gs ar r k a env st
end

/-! ### defs -/
structure Fn where
  name : Str
  np : Nat
  N : List Str
  body : Ss
  /-- lists of its own that it hands back may be changed by its callers -/
  keep : Bool
/-- the lists of the store from n on, written out -/
def mapO {α β : Type} (f : α → Option β) : List α → Option (List β)
  | [] => some []
  | x :: xs => match f x with
    | none => none
    | some y => match mapO f xs with
      | none => none
      | some ys => some (y :: ys)
def froze (n : Nat) (st : Sto) : Nat → PV → Option PV
  | 0, v => if below n v then some v else none
  | d + 1, .tup xs => (mapO (froze n st d) xs).map .tup
  | d + 1, .pl xs => (mapO (froze n st d) xs).map .pl
  | d + 1, .ml i => if i < n then some (.ml i) else match st[i]? with
    | some xs => (mapO (froze n st d) xs).map .pl
    | none => none
  | d + 1, .dic t xs => (mapO (froze n st d) xs).map (.dic t)
  | d + 1, .md i => if i < n then some (.md i) else match st[i]? with
    | some xs => (mapO (froze n st d) xs).map (.dic true)
    | none => none
  | _ + 1, v => if below n v then some v else none
def belowAll (n : Nat) : Nat → Sto → Bool
  | 0, _ => true
  | _ + 1, [] => true
  | k + 1, xs :: r => belows n xs && belowAll n k r
/-- what a def leaves: its own lists are forgotten -/
def leave (keep : Bool) (n : Nat) (v : PV) (st : Sto) : R PV :=
  if keep || decide (st.length ≤ n) then .ok v st else
  if belowAll n n st then (match froze n st 8 v with
    | some w => .ok w (st.take n)
    | none => .bad) else .bad
def finish (keep : Bool) (n : Nat) : F → R PV
  | .next _ st => leave keep n .non st
  | .ret v st => leave keep n v st
  | .ex k a _ st => if belowAll n n st && (match a with | none => true | some v => below n v) then .ex k a (st.take n) else .bad
  | _ => .bad
/-- depth n -/
def callN (gs : Gv) (fs : List Fn) : Nat → Cl
  | 0, _, _, _ => .bad
  | n + 1, f, vs, st => match fs[f]? with
    | none => .bad
    | some fn => if vs.length = fn.np then
        finish fn.keep st.length (evSs (callN gs fs n) gs (fun i => match fs[i]? with | some g => g.np | none => 0) fn.body (vs.map some ++ List.replicate (fn.N.length - vs.length) none) st)
      else .bad
end Ev

/-! EvRep: how the evaluator's values lie in the layer's abstract heap. -/
namespace Ev
open PySem PySem.Spec PyProof.Rows L2

/-- what is fixed: the written part, where the defs stand, the error of the suite -/
structure Pl where
  K : PySem.W.Frag
  fa : Nat → Addr
  ca : Nat → Addr
  ea : Option Addr
  nc : Nat
  w : World

/-- the store's lists; lists that are just being made -/
structure Mu where
  vis : List Addr
  hid : List Addr
def Mu.all (μ : Mu) : List Addr := μ.vis ++ μ.hid
def Mu.more (μ : Mu) (ν : List Addr) : Mu := ⟨μ.vis ++ ν, μ.hid⟩
theorem Mu.mem_more {μ : Mu} {ν : List Addr} {a : Addr} : a ∈ (μ.more ν).all ↔ a ∈ μ.all ∨ a ∈ ν := by
  simp only [Mu.all, Mu.more, List.mem_append]
  constructor
  · rintro ((h | h) | h)
    · exact .inl (.inl h)
    · exact .inr h
    · exact .inl (.inr h)
  · rintro ((h | h) | h)
    · exact .inl (.inl h)
    · exact .inr h
    · exact .inl (.inr h)
theorem Mu.more_nil (μ : Mu) : μ.more [] = μ := by cases μ; simp [Mu.more]
theorem Mu.more_more (μ : Mu) (ν ν' : List Addr) : (μ.more ν).more ν' = μ.more (ν ++ ν') := by simp [Mu.more, List.append_assoc]
theorem Mu.of_vis {μ : Mu} {a : Addr} (h : a ∈ μ.vis) : a ∈ μ.all := List.mem_append_left _ h
theorem Mu.of_hid {μ : Mu} {a : Addr} (h : a ∈ μ.hid) : a ∈ μ.all := List.mem_append_right _ h
/-- an object that is known -/
def dO (a : Addr) (o : Obj) : HO := .ext fun h => h.get? a = some o
/-- a dict's entry: its key, the key's tuple, its value -/
abbrev Ent := NestedKey × Addr × Value
def entN (w : World) (e : Ent) : DictEntry := ⟨e.1.hash w, .ref e.2.1, e.2.2⟩
/-- keys and values by turns -/
def Ents : List V → List Ent → Prop
  | [], ys => ys = []
  | k :: v :: r, ys => ∃ (nk : NestedKey) (b : Addr) (u : Value) (l : List Ent), ys = (nk, b, u) :: l ∧ k = .ref b ∧ RelV v u ∧ Ents r l
  | _, _ => False
/-- a dict of the layer, keys tuples -/
structure DictO (w : World) (a : Addr) (o : Obj) (ys : List Ent) : Prop where
  ex : o.ExactDict
  dat : ∃ es, o.data = .dict es ys.length ∧ es.toList = ys.map (entN w)
  nd : (ys.map (·.1)).Nodup
  nsys : (a == sysModules) = false
/-- a list or a dict that may be changed -/
def Chg (H : Hp) (a : Addr) : Prop := (∃ vs, H a = some (.lst vs)) ∨ (∃ o, H a = some (dO a o)) ∨ ∃ kvs, H a = some (.dK kvs)
def flatK (kvs : List (L2.Key × V)) : List V := kvs.flatMap fun kv => [kV kv.1, kv.2]
mutual
def Rep (G : Pl) (μ : Mu) (H : Hp) : PV → V → Prop
  | .non, v => v = .non
  | .bl b, v => v = .bl b
  | .int i, v => v = .int i
  | .str x, v => v = .str ⟨x.toArray⟩
  | .tup xs, v => ∃ a vs, v = .ref a ∧ SqT G.K H a vs ∧ Reps G μ H xs vs
  | .pl xs, v => ∃ a vs, v = .ref a ∧ a ∉ μ.all ∧ H a = some (.lst vs) ∧ Reps G μ H xs vs
  | .scr xs, v => ∃ a vs, v = .ref a ∧ ((a ∉ μ.all ∧ Rd H a (.lst vs)) ∨ ∃ (o : Obj) (its : Array Value) (n : Nat), G.K.lookup a = some o ∧ o.cls = .type "list" ∧ o.dict = none ∧ o.data = .seq its n ∧ its.size ≤ sizeLine ∧ Vals vs its.toList) ∧ Reps G μ H xs vs
  | .ml i, v => ∃ a, v = .ref a ∧ μ.vis[i]? = some a ∧ ∃ vs, H a = some (.lst vs)
  | .dic true xs, v => ∃ a vs o ys, v = .ref a ∧ a ∉ μ.all ∧ H a = some (dO a o) ∧ DictO G.w a o ys ∧ keysT xs = some (ys.map (·.1)) ∧ Ents vs ys ∧ Reps G μ H xs vs
  | .dic false xs, v => ∃ a vs kvs, v = .ref a ∧ a ∉ μ.all ∧ H a = some (.dK kvs) ∧ leafsB xs = true ∧ vs = flatK kvs ∧ Reps G μ H xs vs
  | .md i, v => ∃ a, v = .ref a ∧ μ.vis[i]? = some a ∧ ∃ o, H a = some (dO a o)
  | .fn i, v => v = .ref (G.fa i)
  | .exn, v => ∃ a, v = .ref a ∧ G.ea = some a
def Reps (G : Pl) (μ : Mu) (H : Hp) : List PV → List V → Prop
  | [], vs => vs = []
  | x :: xs, vs => ∃ v r, vs = v :: r ∧ Rep G μ H x v ∧ Reps G μ H xs r
end
/-- what a place of the store holds -/
def Cell (G : Pl) (μ : Mu) (H : Hp) (a : Addr) (xs : List PV) : Prop := ∃ vs, Reps G μ H xs vs ∧ (H a = some (.lst vs) ∨ ∃ o ys, H a = some (dO a o) ∧ DictO G.w a o ys ∧ keysT xs = some (ys.map (·.1)) ∧ Ents vs ys)
/-- the store -/
structure RepSt (G : Pl) (μ : Mu) (H : Hp) (st : Sto) : Prop where
  len : μ.vis.length = st.length
  nd : μ.vis.Nodup
  dis : ∀ a ∈ μ.hid, a ∉ μ.vis
  hid : ∀ a ∈ μ.hid, Chg H a
  cell : ∀ (i : Nat) (xs : List PV), st[i]? = some xs → ∃ a, μ.vis[i]? = some a ∧ Cell G μ H a xs
/-- the slots -/
structure RepEnv (G : Pl) (μ : Mu) (H : Hp) (env : Env) (σ : L2.St) : Prop where
  len : env.length = σ.length
  at_ : ∀ (i : Nat) (x : PV), env[i]? = some (some x) → ∃ v, σ[i]? = some (some v) ∧ Rep G μ H x v
/-- what values need to stay what they are -/
structure Wex (μ : Mu) (H : Hp) (μ' : Mu) (H' : Hp) : Prop where
  lst : ∀ a ∈ μ.all, Chg H a
  kl : ∀ a ∈ μ.vis, (∃ vs, H a = some (.lst vs)) → ∃ vs, H' a = some (.lst vs)
  kd : ∀ a ∈ μ.vis, (∃ o, H a = some (dO a o)) → ∃ o, H' a = some (dO a o)
  pre : ∃ ν, μ' = μ.more ν ∧ ∀ a ∈ ν, H a = none
  keep : ∀ a o, H a = some o → a ∉ μ.all → H' a = some o
/-- what stays -/
structure Ext (μ : Mu) (H : Hp) (μ' : Mu) (H' : Hp) : Prop extends Wex μ H μ' H' where
  hold : ∀ a ∈ μ.hid, H' a = H a

theorem Chg.some {H : Hp} {a : Addr} (h : Chg H a) : ∃ o, H a = some o := h.elim (fun ⟨_, e⟩ => ⟨_, e⟩) fun h => h.elim (fun ⟨_, e⟩ => ⟨_, e⟩) fun ⟨_, e⟩ => ⟨_, e⟩
theorem Chg.same {H H' : Hp} {a : Addr} (h : Chg H a) (e : H' a = H a) : Chg H' a := by unfold Chg; rw [e]; exact h
theorem Cell.chg {G : Pl} {μ : Mu} {H : Hp} {a : Addr} {xs : List PV} (c : Cell G μ H a xs) : Chg H a := by
  obtain ⟨vs, _, h | ⟨o, _, h, _⟩⟩ := c
  · exact .inl ⟨vs, h⟩
  · exact .inr (.inl ⟨o, h⟩)
theorem RepSt.lst {G : Pl} {μ : Mu} {H : Hp} {st : Sto} (r : RepSt G μ H st) : ∀ a ∈ μ.all, Chg H a := fun a ha => by
  rcases List.mem_append.mp ha with ha | ha
  · obtain ⟨i, hi⟩ := List.mem_iff_getElem?.mp ha
    have hlt : i < st.length := by rw [← r.len]; exact (List.getElem?_eq_some_iff.mp hi).1
    obtain ⟨b, e, c⟩ := r.cell i st[i] (List.getElem?_eq_getElem hlt)
    rw [hi] at e; cases e
    exact c.chg
  · exact r.hid a ha
/-- a list of the store -/
theorem RepSt.at_ {G : Pl} {μ : Mu} {H : Hp} {st : Sto} (r : RepSt G μ H st) (i : Nat) (xs : List PV) (e : st[i]? = some xs) {a : Addr} (ha : μ.vis[i]? = some a) (hl : ∃ vs, H a = some (.lst vs)) : ∃ vs, H a = some (.lst vs) ∧ Reps G μ H xs vs := by
  obtain ⟨b, e1, vs, e2, h | ⟨o, _, h, _⟩⟩ := r.cell i xs e
  · rw [ha] at e1; cases e1
    exact ⟨vs, h, e2⟩
  · rw [ha] at e1; cases e1
    obtain ⟨ws, z⟩ := hl
    rw [h] at z; cases z
/-- a dict of the store -/
theorem RepSt.atD {G : Pl} {μ : Mu} {H : Hp} {st : Sto} (r : RepSt G μ H st) (i : Nat) (xs : List PV) (e : st[i]? = some xs) {a : Addr} (ha : μ.vis[i]? = some a) (hl : ∃ o, H a = some (dO a o)) : ∃ vs o ys, H a = some (dO a o) ∧ DictO G.w a o ys ∧ keysT xs = some (ys.map (·.1)) ∧ Ents vs ys ∧ Reps G μ H xs vs := by
  obtain ⟨b, e1, vs, e2, h | ⟨o, ys, h1, h2, h3, h4⟩⟩ := r.cell i xs e
  · rw [ha] at e1; cases e1
    obtain ⟨o, z⟩ := hl
    rw [h] at z; cases z
  · rw [ha] at e1; cases e1
    exact ⟨vs, o, ys, h1, h2, h3, h4, e2⟩
theorem Ext.refl {G : Pl} {μ : Mu} {H : Hp} {st : Sto} (r : RepSt G μ H st) : Ext μ H μ H := ⟨⟨r.lst, fun _ _ h => h, fun _ _ h => h, ⟨[], (Mu.more_nil μ).symm, by simp⟩, fun _ _ h _ => h⟩, fun _ _ => rfl⟩
theorem Wex.trans {μ μ1 μ2 : Mu} {H H1 H2 : Hp} (e : Wex μ H μ1 H1) (f : Wex μ1 H1 μ2 H2) : Wex μ H μ2 H2 := by
  obtain ⟨ν, e1, e2⟩ := e.pre
  obtain ⟨ν', f1, f2⟩ := f.pre
  have live : ∀ a, H1 a = none → H a = none := fun a h => by
    cases q : H a with
    | none => rfl
    | some o =>
      by_cases hm : a ∈ μ.all
      · obtain ⟨u, z⟩ := (f.lst a (by rw [e1]; exact Mu.mem_more.mpr (.inl hm))).some
        rw [h] at z; cases z
      · have z := e.keep a o q hm
        rw [h] at z; cases z
  have sub : ∀ a ∈ μ.vis, a ∈ μ1.vis := fun a ha => by rw [e1]; exact List.mem_append_left _ ha
  refine ⟨e.lst, fun a ha h => f.kl a (sub a ha) (e.kl a ha h), fun a ha h => f.kd a (sub a ha) (e.kd a ha h), ⟨ν ++ ν', by rw [f1, e1, Mu.more_more], fun a ha => ?_⟩, fun a o h hm => ?_⟩
  · rcases List.mem_append.mp ha with ha | ha
    · exact e2 a ha
    · exact live a (f2 a ha)
  · refine f.keep a o (e.keep a o h hm) fun hm1 => ?_
    rw [e1] at hm1
    rcases Mu.mem_more.mp hm1 with z | z
    · exact hm z
    · rw [e2 a z] at h; cases h
theorem Ext.trans {μ μ1 μ2 : Mu} {H H1 H2 : Hp} (e : Ext μ H μ1 H1) (f : Ext μ1 H1 μ2 H2) : Ext μ H μ2 H2 := by
  refine ⟨e.toWex.trans f.toWex, fun a ha => ?_⟩
  obtain ⟨ν, e1, _⟩ := e.pre
  rw [f.hold a (by rw [e1]; exact ha), e.hold a ha]

/-- what values need, at the widest -/
structure Wid (μ : Mu) (H : Hp) (μ' : Mu) (H' : Hp) : Prop where
  pre : ∃ ν, μ'.vis = μ.vis ++ ν
  keep : ∀ a o, H a = some o → a ∉ μ.all → H' a = some o ∧ a ∉ μ'.all
  oth : ∀ a o, H a = some o → (∀ ws, o ≠ .lst ws) → (∀ u, o ≠ dO a u) → (∀ kvs, o ≠ .dK kvs) → H' a = some o
  kl : ∀ a ∈ μ.vis, (∃ vs, H a = some (.lst vs)) → ∃ vs, H' a = some (.lst vs)
  kd : ∀ a ∈ μ.vis, (∃ o, H a = some (dO a o)) → ∃ o, H' a = some (dO a o)
theorem Wid.trans {μ μ1 μ2 : Mu} {H H1 H2 : Hp} (e : Wid μ H μ1 H1) (f : Wid μ1 H1 μ2 H2) : Wid μ H μ2 H2 := by
  obtain ⟨ν, e1⟩ := e.pre
  obtain ⟨ν', f1⟩ := f.pre
  have sub : ∀ a ∈ μ.vis, a ∈ μ1.vis := fun a ha => by rw [e1]; exact List.mem_append_left _ ha
  exact ⟨⟨ν ++ ν', by rw [f1, e1, List.append_assoc]⟩, fun a o h hm => let ⟨h1, h2⟩ := e.keep a o h hm; f.keep a o h1 h2, fun a o h hn hd hk => f.oth a o (e.oth a o h hn hd hk) hn hd hk, fun a ha h => f.kl a (sub a ha) (e.kl a ha h), fun a ha h => f.kd a (sub a ha) (e.kd a ha h)⟩
theorem Wid.refl {μ : Mu} {H : Hp} : Wid μ H μ H := ⟨⟨[], by simp⟩, fun _ _ h hm => ⟨h, hm⟩, fun _ _ h _ _ _ => h, fun _ _ h => h, fun _ _ h => h⟩
section
variable {G : Pl} {μ μ' : Mu} {H H' : Hp}
theorem Wid.tup (e : Wid μ H μ' H') {a : Addr} {vs : List V} (h : SqT G.K H a vs) : SqT G.K H' a vs := by
  rcases h with (h | ⟨o, h⟩) | h
  · exact .inl (.inl (e.oth a _ h (fun _ z => nomatch z) (fun _ z => nomatch z) fun _ z => nomatch z))
  · exact .inl (.inr ⟨o, e.oth a _ h (fun _ z => nomatch z) (fun _ z => nomatch z) fun _ z => nomatch z⟩)
  · exact .inr h
mutual
theorem Rep.widen (e : Wid μ H μ' H') : ∀ (x : PV) (v : V), Rep G μ H x v → Rep G μ' H' x v
  | .non, _, h => h
  | .bl _, _, h => h
  | .int _, _, h => h
  | .str _, _, h => h
  | .tup xs, _, ⟨a, vs, h1, h2, h3⟩ => ⟨a, vs, h1, e.tup h2, Reps.widen e xs vs h3⟩
  | .pl xs, _, ⟨a, vs, h1, h2, h3, h4⟩ => ⟨a, vs, h1, (e.keep a _ h3 h2).2, (e.keep a _ h3 h2).1, Reps.widen e xs vs h4⟩
  | .scr xs, _, ⟨a, vs, h1, h2, h4⟩ => ⟨a, vs, h1, by
      rcases h2 with ⟨h2, h3⟩ | h2
      · rcases h3 with h3 | ⟨o, h3⟩
        · exact .inl ⟨(e.keep a _ h3 h2).2, .inl (e.keep a _ h3 h2).1⟩
        · exact .inl ⟨(e.keep a _ h3 h2).2, .inr ⟨o, (e.keep a _ h3 h2).1⟩⟩
      · exact .inr h2, Reps.widen e xs vs h4⟩
  | .ml i, _, ⟨a, h1, h2, h3⟩ => ⟨a, h1, by
      obtain ⟨ν, e1⟩ := e.pre
      rw [e1, List.getElem?_append_left (List.getElem?_eq_some_iff.mp h2).1]; exact h2, e.kl a (List.mem_of_getElem? h2) h3⟩
  | .dic true xs, _, ⟨a, vs, o, ys, h1, h2, h3, h4, h5, h6, h7⟩ => ⟨a, vs, o, ys, h1, (e.keep a _ h3 h2).2, (e.keep a _ h3 h2).1, h4, h5, h6, Reps.widen e xs vs h7⟩
  | .dic false xs, _, ⟨a, vs, kvs, h1, h2, h3, h4, h5, h6⟩ => ⟨a, vs, kvs, h1, (e.keep a _ h3 h2).2, (e.keep a _ h3 h2).1, h4, h5, Reps.widen e xs vs h6⟩
  | .md i, _, ⟨a, h1, h2, h3⟩ => ⟨a, h1, by
      obtain ⟨ν, e1⟩ := e.pre
      rw [e1, List.getElem?_append_left (List.getElem?_eq_some_iff.mp h2).1]; exact h2, e.kd a (List.mem_of_getElem? h2) h3⟩
  | .fn _, _, h => h
  | .exn, _, h => h
theorem Reps.widen (e : Wid μ H μ' H') : ∀ (xs : List PV) (vs : List V), Reps G μ H xs vs → Reps G μ' H' xs vs
  | [], _, h => h
  | x :: xs, _, ⟨v, r, h1, h2, h3⟩ => ⟨v, r, h1, Rep.widen e x v h2, Reps.widen e xs r h3⟩
end
theorem RepEnv.widen (e : Wid μ H μ' H') {env : Env} {σ : L2.St} (r : RepEnv G μ H env σ) : RepEnv G μ' H' env σ :=
  ⟨r.len, fun i x h => let ⟨v, h1, h2⟩ := r.at_ i x h; ⟨v, h1, Rep.widen e x v h2⟩⟩
end
section
variable {G : Pl} {μ μ' : Mu} {H H' : Hp}
theorem Wex.nin (e : Wex μ H μ' H') {a : Addr} {o : HO} (h : H a = some o) (hm : a ∉ μ.all) : a ∉ μ'.all := fun z => by
  obtain ⟨ν, e1, e2⟩ := e.pre
  rw [e1] at z
  rcases Mu.mem_more.mp z with z | z
  · exact hm z
  · rw [e2 a z] at h; cases h
theorem Wex.wid (e : Wex μ H μ' H') : Wid μ H μ' H' := by
  refine ⟨?_, fun a o h hm => ⟨e.keep a o h hm, e.nin h hm⟩, fun a o h hn hd hk => e.keep a o h fun hm => ?_, e.kl, e.kd⟩
  · obtain ⟨ν, z, _⟩ := e.pre
    exact ⟨ν, by rw [z]; rfl⟩
  · rcases e.lst a hm with ⟨ws, z⟩ | ⟨u, z⟩ | ⟨kvs, z⟩
    · rw [z] at h; cases h
      exact hn _ rfl
    · rw [z] at h; cases h
      exact hd _ rfl
    · rw [z] at h; cases h
      exact hk _ rfl
theorem Cell.widen (e : Wid μ H μ' H') {a : Addr} {xs : List PV} (c : Cell G μ H a xs) (h : H' a = H a) : Cell G μ' H' a xs := by
  obtain ⟨vs, r, q⟩ := c
  exact ⟨vs, Reps.widen e xs vs r, by rw [h]; exact q⟩
theorem Cell.mono (e : Ext μ H μ' H') {a : Addr} {xs : List PV} (c : Cell G μ H a xs) (h : H' a = H a) : Cell G μ' H' a xs := c.widen e.toWex.wid h
theorem Rep.wono (e : Wex μ H μ' H') (x : PV) (v : V) (h : Rep G μ H x v) : Rep G μ' H' x v := Rep.widen e.wid x v h
theorem Reps.wono (e : Wex μ H μ' H') (xs : List PV) (vs : List V) (h : Reps G μ H xs vs) : Reps G μ' H' xs vs := Reps.widen e.wid xs vs h
theorem Rep.mono (e : Ext μ H μ' H') (x : PV) (v : V) (h : Rep G μ H x v) : Rep G μ' H' x v := Rep.wono e.toWex x v h
theorem Reps.mono (e : Ext μ H μ' H') (xs : List PV) (vs : List V) (h : Reps G μ H xs vs) : Reps G μ' H' xs vs := Reps.wono e.toWex xs vs h
theorem Reps.length : ∀ {xs : List PV} {vs : List V}, Reps G μ H xs vs → xs.length = vs.length
  | [], _, h => by rw [show _ = [] from h]; rfl
  | _ :: xs, _, ⟨v, r, h1, _, h3⟩ => by rw [h1, List.length_cons, List.length_cons, Reps.length h3]
theorem Reps.get : ∀ {xs : List PV} {vs : List V} {i : Nat} {x : PV}, Reps G μ H xs vs → xs[i]? = some x → ∃ v, vs[i]? = some v ∧ Rep G μ H x v
  | [], _, i, _, _, e => by simp at e
  | y :: xs, _, 0, x, ⟨v, r, h1, h2, _⟩, e => by
    have e' : y = x := by simpa using e
    subst e'
    exact ⟨v, by rw [h1]; rfl, h2⟩
  | _ :: xs, _, i + 1, x, ⟨v, r, h1, _, h3⟩, e => by
    obtain ⟨w, q1, q2⟩ := Reps.get (i := i) h3 (by simpa using e)
    exact ⟨w, by rw [h1]; simpa using q1, q2⟩
theorem Reps.append : ∀ {xs ys : List PV} {vs ws : List V}, Reps G μ H xs vs → Reps G μ H ys ws → Reps G μ H (xs ++ ys) (vs ++ ws)
  | [], _, _, _, h, q => by rw [show _ = [] from h]; exact q
  | _ :: xs, _, _, _, ⟨v, r, h1, h2, h3⟩, q => ⟨v, _, by rw [h1]; rfl, h2, Reps.append h3 q⟩
theorem Reps.rep {xs : List PV} {vs : List V} (h : Reps G μ H xs vs) : ∀ n : Nat, Reps G μ H (List.replicate n xs).flatten (List.replicate n vs).flatten
  | 0 => rfl
  | n + 1 => by
    rw [List.replicate_succ, List.replicate_succ, List.flatten_cons, List.flatten_cons]
    exact h.append (Reps.rep h n)
theorem Reps.one {x : PV} {v : V} (h : Rep G μ H x v) : Reps G μ H [x] [v] := ⟨v, [], rfl, h, rfl⟩
theorem Reps.drop : ∀ {xs : List PV} {vs : List V} (n : Nat), Reps G μ H xs vs → Reps G μ H (xs.drop n) (vs.drop n)
  | _, _, 0, h => h
  | [], _, n + 1, h => by rw [show _ = [] from h]; rfl
  | _ :: xs, _, n + 1, ⟨v, r, h1, _, h3⟩ => by rw [h1]; exact Reps.drop n h3
theorem Reps.take : ∀ {xs : List PV} {vs : List V} (n : Nat), Reps G μ H xs vs → Reps G μ H (xs.take n) (vs.take n)
  | _, _, 0, h => by simp only [List.take_zero]; rfl
  | [], _, n + 1, h => by rw [show _ = [] from h]; rfl
  | _ :: xs, _, n + 1, ⟨v, r, h1, h2, h3⟩ => by rw [h1]; exact ⟨v, _, rfl, h2, Reps.take n h3⟩
theorem Reps.set : ∀ {xs : List PV} {vs : List V} (n : Nat) {x : PV} {v : V}, Rep G μ H x v → Reps G μ H xs vs → Reps G μ H (xs.set n x) (vs.set n v)
  | [], _, n, _, _, _, h => by rw [show _ = [] from h]; rfl
  | _ :: xs, _, 0, _, _, q, ⟨v, r, h1, _, h3⟩ => by rw [h1]; exact ⟨_, _, rfl, q, h3⟩
  | _ :: xs, _, n + 1, _, _, q, ⟨v, r, h1, h2, h3⟩ => by rw [h1]; exact ⟨_, _, rfl, h2, Reps.set n q h3⟩
theorem Reps.dropLast : ∀ {xs : List PV} {vs : List V}, Reps G μ H xs vs → Reps G μ H xs.dropLast vs.dropLast := fun {xs vs} h => by
  rw [List.dropLast_eq_take, List.dropLast_eq_take, h.length]
  exact h.take _
theorem RepEnv.mono (e : Ext μ H μ' H') {env : Env} {σ : L2.St} (r : RepEnv G μ H env σ) : RepEnv G μ' H' env σ :=
  ⟨r.len, fun i x h => let ⟨v, h1, h2⟩ := r.at_ i x h; ⟨v, h1, h2.mono e⟩⟩
theorem RepEnv.wono (e : Wex μ H μ' H') {env : Env} {σ : L2.St} (r : RepEnv G μ H env σ) : RepEnv G μ' H' env σ :=
  ⟨r.len, fun i x h => let ⟨v, h1, h2⟩ := r.at_ i x h; ⟨v, h1, h2.wono e⟩⟩
theorem RepEnv.set {env : Env} {σ : L2.St} (r : RepEnv G μ H env σ) {x : PV} {v : V} (h : Rep G μ H x v) (i : Nat) : RepEnv G μ H (env.set i (some x)) (σ.set i (some v)) := by
  refine ⟨by rw [List.length_set, List.length_set, r.len], fun j y e => ?_⟩
  by_cases hj : i = j
  · subst hj
    by_cases hl : i < env.length
    · rw [List.getElem?_set_self hl] at e
      cases e
      exact ⟨v, by rw [List.getElem?_set_self (by rw [← r.len]; exact hl)], h⟩
    · rw [List.getElem?_eq_none (by rw [List.length_set]; omega)] at e; cases e
  · rw [List.getElem?_set_ne hj] at e
    obtain ⟨w, h1, h2⟩ := r.at_ j y e
    exact ⟨w, by rw [List.getElem?_set_ne hj]; exact h1, h2⟩
theorem RepEnv.clear {env : Env} {σ : L2.St} (r : RepEnv G μ H env σ) (i : Nat) (o : Option V) : RepEnv G μ H (env.set i none) (σ.set i o) := by
  refine ⟨by rw [List.length_set, List.length_set, r.len], fun j y e => ?_⟩
  by_cases hj : i = j
  · subst hj
    by_cases hl : i < env.length
    · rw [List.getElem?_set_self hl] at e; cases e
    · rw [List.getElem?_eq_none (by rw [List.length_set]; omega)] at e; cases e
  · rw [List.getElem?_set_ne hj] at e
    obtain ⟨w, h1, h2⟩ := r.at_ j y e
    exact ⟨w, by rw [List.getElem?_set_ne hj]; exact h1, h2⟩
theorem RepEnv.wipe {env : Env} {σ : L2.St} (r : RepEnv G μ H env σ) : ∀ vs : List Nat, RepEnv G μ H (wipe env vs) (L2.wipe σ vs)
  | [] => r
  | v :: vs => (RepEnv.wipe r vs).clear v none

/-! ### new objects -/
theorem new_same {p : Addr} {o : HO} (hp : H p = none) {a : Addr} (h : ∃ u, H a = some u) : upd H p o a = H a := by
  obtain ⟨u, h⟩ := h
  exact upd_ne (ne_of_none h hp)
theorem new_kl {p : Addr} {o : HO} (hp : H p = none) (a : Addr) (h : ∃ vs, H a = some (.lst vs)) : ∃ vs, upd H p o a = some (.lst vs) := by
  obtain ⟨vs, e⟩ := h
  exact ⟨vs, by rw [upd_ne (ne_of_none e hp)]; exact e⟩
theorem new_kd {p : Addr} {o : HO} (hp : H p = none) (a : Addr) (h : ∃ u, H a = some (dO a u)) : ∃ u, upd H p o a = some (dO a u) := by
  obtain ⟨vs, e⟩ := h
  exact ⟨vs, by rw [upd_ne (ne_of_none e hp)]; exact e⟩
/-- a new object outside of the store -/
theorem Ext.new {st : Sto} (r : RepSt G μ H st) {p : Addr} {o : HO} (hp : H p = none) : Ext μ H μ (upd H p o) := by
  refine ⟨⟨r.lst, fun a _ => new_kl hp a, fun a _ => new_kd hp a, ⟨[], (Mu.more_nil μ).symm, by simp⟩, fun a u h _ => ?_⟩, fun a ha => new_same hp (r.hid a ha).some⟩
  rw [upd_ne (ne_of_none h hp)]; exact h
theorem RepSt.new {st : Sto} (r : RepSt G μ H st) {p : Addr} {o : HO} (hp : H p = none) : RepSt G μ (upd H p o) st := by
  refine ⟨r.len, r.nd, r.dis, fun a ha => (r.hid a ha).same (new_same hp (r.hid a ha).some), fun i xs e => ?_⟩
  obtain ⟨a, h1, h2⟩ := r.cell i xs e
  exact ⟨a, h1, h2.mono (Ext.new r hp) (new_same hp h2.chg.some)⟩
theorem RepSt.fresh {st : Sto} (r : RepSt G μ H st) {p : Addr} (hp : H p = none) : p ∉ μ.all := fun hm => by
  obtain ⟨vs, z⟩ := (r.lst p hm).some
  rw [hp] at z; cases z
/-- a new list or dict of the store -/
theorem Ext.newL {st : Sto} (r : RepSt G μ H st) {p : Addr} {o : HO} (hp : H p = none) : Ext μ H (μ.more [p]) (upd H p o) := by
  refine ⟨⟨r.lst, fun a _ => new_kl hp a, fun a _ => new_kd hp a, ⟨[p], rfl, fun a ha => by rw [List.mem_singleton.mp ha]; exact hp⟩, fun a u h _ => ?_⟩, fun a ha => new_same hp (r.hid a ha).some⟩
  rw [upd_ne (ne_of_none h hp)]; exact h
theorem RepSt.newC {st : Sto} (r : RepSt G μ H st) {p : Addr} {o : HO} {xs : List PV} (hp : H p = none) (c : Cell G (μ.more [p]) (upd H p o) p xs) : RepSt G (μ.more [p]) (upd H p o) (st ++ [xs]) := by
  have e := Ext.newL (G := G) (o := o) r hp
  have fr := r.fresh hp
  refine ⟨?_, ?_, fun a ha => ?_, fun a ha => (r.hid a ha).same (new_same hp (r.hid a ha).some), fun i ys q => ?_⟩
  · show (μ.vis ++ [p]).length = _
    rw [List.length_append, List.length_append, r.len]; rfl
  · show (μ.vis ++ [p]).Nodup
    rw [List.nodup_append]
    refine ⟨r.nd, by simp, fun a ha b hb => ?_⟩
    rw [List.mem_singleton.mp hb]
    intro z; subst z
    exact fr (Mu.of_vis ha)
  · show a ∉ μ.vis ++ [p]
    intro z
    rcases List.mem_append.mp z with z | z
    · exact r.dis a ha z
    · rw [List.mem_singleton.mp z] at ha; exact fr (Mu.of_hid ha)
  · by_cases hi : i < st.length
    · rw [List.getElem?_append_left hi] at q
      obtain ⟨a, h1, h2⟩ := r.cell i ys q
      exact ⟨a, by show (μ.vis ++ [p])[i]? = _; rw [List.getElem?_append_left (List.getElem?_eq_some_iff.mp h1).1]; exact h1, h2.mono e (new_same hp h2.chg.some)⟩
    · rw [List.getElem?_append_right (by omega)] at q
      have h0 : i - st.length = 0 := by
        cases hz : i - st.length with
        | zero => rfl
        | succ k => rw [hz] at q; simp at q
      rw [h0] at q
      have q' : xs = ys := by simpa using q
      subst q'
      refine ⟨p, ?_, c⟩
      show (μ.vis ++ [p])[i]? = _
      rw [List.getElem?_append_right (by rw [r.len]; omega), r.len, h0]; rfl
theorem RepSt.newL {st : Sto} (r : RepSt G μ H st) {p : Addr} {xs : List PV} {vs : List V} (hp : H p = none) (h : Reps G μ H xs vs) : RepSt G (μ.more [p]) (upd H p (.lst vs)) (st ++ [xs]) :=
  r.newC hp ⟨vs, h.mono (Ext.newL (G := G) r hp), .inl upd_same⟩
/-- a list or a dict of the store changed -/
theorem RepSt.putC {st : Sto} (r : RepSt G μ H st) {i : Nat} {a : Addr} {o : HO} {xs : List PV} (hi : i < st.length) (ha : μ.vis[i]? = some a) (hl : (∃ vs, H a = some (.lst vs)) → ∃ vs, o = .lst vs) (hd : (∃ u, H a = some (dO a u)) → ∃ u, o = dO a u)
    (c : Ext μ H μ (upd H a o) → Cell G μ (upd H a o) a xs) : Ext μ H μ (upd H a o) ∧ RepSt G μ (upd H a o) (st.set i xs) := by
  have hm : a ∈ μ.vis := List.mem_of_getElem? ha
  have ne : ∀ b ∈ μ.hid, b ≠ a := fun b hb z => r.dis b hb (by rw [z]; exact hm)
  have e : Ext μ H μ (upd H a o) := by
    refine ⟨⟨r.lst, fun b _ h => ?_, fun b _ h => ?_, ⟨[], (Mu.more_nil μ).symm, by simp⟩, fun b u hb hn => ?_⟩, fun b hb => upd_ne (ne b hb)⟩
    · by_cases z : b = a
      · subst z
        obtain ⟨vs, e⟩ := hl h
        exact ⟨vs, by rw [upd_same, e]⟩
      · rw [upd_ne z]; exact h
    · by_cases z : b = a
      · subst z
        obtain ⟨vs, e⟩ := hd h
        exact ⟨vs, by rw [upd_same, e]⟩
      · rw [upd_ne z]; exact h
    · rw [upd_ne fun z => hn (by rw [z]; exact Mu.of_vis hm)]; exact hb
  refine ⟨e, by rw [List.length_set, r.len], r.nd, r.dis, fun b hb => (r.hid b hb).same (upd_ne (ne b hb)), fun j ys q => ?_⟩
  by_cases hj : i = j
  · subst hj
    rw [List.getElem?_set_self hi] at q
    cases q
    exact ⟨a, ha, c e⟩
  · rw [List.getElem?_set_ne hj] at q
    obtain ⟨b, h1, h2⟩ := r.cell j ys q
    have hb : b ≠ a := fun z => by
      rw [z] at h1
      obtain ⟨l1, m1⟩ := List.getElem?_eq_some_iff.mp ha
      obtain ⟨l2, m2⟩ := List.getElem?_eq_some_iff.mp h1
      exact hj ((List.getElem_inj r.nd).mp (m1.trans m2.symm))
    exact ⟨b, h1, h2.mono e (upd_ne hb)⟩
/-- a list of the store changed -/
theorem RepSt.put {st : Sto} (r : RepSt G μ H st) {i : Nat} {a : Addr} {xs : List PV} {ws vs : List V} (hi : i < st.length) (ha : μ.vis[i]? = some a) (hl : H a = some (.lst ws)) (h : Reps G μ H xs vs) :
    Ext μ H μ (upd H a (.lst vs)) ∧ RepSt G μ (upd H a (.lst vs)) (st.set i xs) :=
  r.putC hi ha (fun _ => ⟨vs, rfl⟩) (fun ⟨_, z⟩ => by rw [hl] at z; cases z) fun e => ⟨vs, h.mono e, .inl upd_same⟩

/-! ### a list that is just being made -/
/-- the same with D in the making -/
abbrev Mu.hide (μ : Mu) (D : Addr) : Mu := ⟨μ.vis, D :: μ.hid⟩
theorem Mu.mem_hide {μ : Mu} {D a : Addr} : a ∈ (μ.hide D).all ↔ a = D ∨ a ∈ μ.all := by
  simp only [Mu.all, Mu.hide, List.mem_append, List.mem_cons]
  constructor
  · rintro (h | h | h)
    · exact .inr (.inl h)
    · exact .inl h
    · exact .inr (.inr h)
  · rintro (h | h | h)
    · exact .inr (.inl h)
    · exact .inl h
    · exact .inr (.inr h)
/-- .. is not named by what is older -/
theorem Wid.hide {D : Addr} {u : HO} (hD : H D = none) : Wid μ H (μ.hide D) (upd H D u) :=
  ⟨⟨[], by simp⟩, fun a o h hm => ⟨by rw [upd_ne (ne_of_none h hD)]; exact h, fun z => (Mu.mem_hide.mp z).elim (ne_of_none h hD) hm⟩, fun a o h _ _ _ => by rw [upd_ne (ne_of_none h hD)]; exact h, fun a _ => new_kl hD a, fun a _ => new_kd hD a⟩
theorem RepSt.hideC {st : Sto} {D : Addr} {u : HO} (hD : H D = none) (hu : Chg (upd H D u) D) (r : RepSt G μ H st) : RepSt G (μ.hide D) (upd H D u) st := by
  refine ⟨r.len, r.nd, fun a ha => ?_, fun a ha => ?_, fun i xs e => ?_⟩
  · rcases List.mem_cons.mp ha with rfl | ha
    · exact fun z => r.fresh hD (Mu.of_vis z)
    · exact r.dis a ha
  · rcases List.mem_cons.mp ha with rfl | ha
    · exact hu
    · exact (r.hid a ha).same (new_same hD (r.hid a ha).some)
  · obtain ⟨a, h1, h2⟩ := r.cell i xs e
    exact ⟨a, h1, h2.widen (Wid.hide hD) (new_same hD h2.chg.some)⟩
theorem RepSt.hide {st : Sto} {D : Addr} {vs : List V} (hD : H D = none) (r : RepSt G μ H st) : RepSt G (μ.hide D) (upd H D (.lst vs)) st := r.hideC hD (.inl ⟨vs, upd_same⟩)
/-- D has grown -/
theorem Wex.growC {st : Sto} {D : Addr} {u : HO} (r : RepSt G μ H st) (hD : D ∈ μ.hid) : Wex μ H μ (upd H D u) := by
  have ne : ∀ a ∈ μ.vis, a ≠ D := fun a ha z => r.dis D hD (by rw [← z]; exact ha)
  exact ⟨r.lst, fun a ha h => by rw [upd_ne (ne a ha)]; exact h, fun a ha h => by rw [upd_ne (ne a ha)]; exact h, ⟨[], (Mu.more_nil μ).symm, by simp⟩, fun a o h hm => by rw [upd_ne fun z => hm (by rw [z]; exact Mu.of_hid hD)]; exact h⟩
theorem Wex.grow {st : Sto} {D : Addr} {vs : List V} (r : RepSt G μ H st) (hD : D ∈ μ.hid) : Wex μ H μ (upd H D (.lst vs)) := Wex.growC r hD
theorem RepSt.growC {st : Sto} {D : Addr} {u : HO} (r : RepSt G μ H st) (hD : D ∈ μ.hid) (hu : Chg (upd H D u) D) : RepSt G μ (upd H D u) st := by
  have e := Wex.growC (u := u) r hD
  refine ⟨r.len, r.nd, r.dis, fun a ha => ?_, fun i xs q => ?_⟩
  · by_cases h : a = D
    · subst h; exact hu
    · exact (r.hid a ha).same (upd_ne h)
  · obtain ⟨a, h1, h2⟩ := r.cell i xs q
    have ne : a ≠ D := fun z => r.dis D hD (by rw [← z]; exact List.mem_of_getElem? h1)
    exact ⟨a, h1, h2.widen e.wid (upd_ne ne)⟩
theorem RepSt.grow {st : Sto} {D : Addr} {vs : List V} (r : RepSt G μ H st) (hD : D ∈ μ.hid) : RepSt G μ (upd H D (.lst vs)) st := r.growC hD (.inl ⟨vs, upd_same⟩)
mutual
/-- D is done: what does not name it stays -/
theorem Rep.show_ {μ2 : Mu} (hv : ∃ ν, μ2.vis = μ.vis ++ ν) (ha : ∀ a, a ∉ μ.all → a ∉ μ2.all) : ∀ (x : PV) (v : V), Rep G μ H x v → Rep G μ2 H x v
  | .non, _, h => h
  | .bl _, _, h => h
  | .int _, _, h => h
  | .str _, _, h => h
  | .tup xs, _, ⟨a, vs, h1, h2, h3⟩ => ⟨a, vs, h1, h2, Reps.show_ hv ha xs vs h3⟩
  | .pl xs, _, ⟨a, vs, h1, h2, h3, h4⟩ => ⟨a, vs, h1, ha a h2, h3, Reps.show_ hv ha xs vs h4⟩
  | .scr xs, _, ⟨a, vs, h1, h2, h4⟩ => ⟨a, vs, h1, h2.elim (fun z => .inl ⟨ha a z.1, z.2⟩) .inr, Reps.show_ hv ha xs vs h4⟩
  | .ml i, _, ⟨a, h1, h2, h3⟩ => ⟨a, h1, by
      obtain ⟨ν, e⟩ := hv
      rw [e, List.getElem?_append_left (List.getElem?_eq_some_iff.mp h2).1]; exact h2, h3⟩
  | .dic true xs, _, ⟨a, vs, o, ys, h1, h2, h3, h4, h5, h6, h7⟩ => ⟨a, vs, o, ys, h1, ha a h2, h3, h4, h5, h6, Reps.show_ hv ha xs vs h7⟩
  | .dic false xs, _, ⟨a, vs, kvs, h1, h2, h3, h4, h5, h6⟩ => ⟨a, vs, kvs, h1, ha a h2, h3, h4, h5, Reps.show_ hv ha xs vs h6⟩
  | .md i, _, ⟨a, h1, h2, h3⟩ => ⟨a, h1, by
      obtain ⟨ν, e⟩ := hv
      rw [e, List.getElem?_append_left (List.getElem?_eq_some_iff.mp h2).1]; exact h2, h3⟩
  | .fn _, _, h => h
  | .exn, _, h => h
theorem Reps.show_ {μ2 : Mu} (hv : ∃ ν, μ2.vis = μ.vis ++ ν) (ha : ∀ a, a ∉ μ.all → a ∉ μ2.all) : ∀ (xs : List PV) (vs : List V), Reps G μ H xs vs → Reps G μ2 H xs vs
  | [], _, h => h
  | x :: xs, _, ⟨v, r, h1, h2, h3⟩ => ⟨v, r, h1, Rep.show_ hv ha x v h2, Reps.show_ hv ha xs r h3⟩
end
theorem Cell.show_ {μ2 : Mu} (hv : ∃ ν, μ2.vis = μ.vis ++ ν) (ha : ∀ a, a ∉ μ.all → a ∉ μ2.all) {a : Addr} {xs : List PV} (c : Cell G μ H a xs) : Cell G μ2 H a xs := by
  obtain ⟨vs, r, q⟩ := c
  exact ⟨vs, Reps.show_ hv ha xs vs r, q⟩
theorem RepSt.show_ {st : Sto} {D : Addr} (r : RepSt G (μ.hide D) H st) : RepSt G μ H st := by
  have ha : ∀ a, a ∉ (μ.hide D).all → a ∉ μ.all := fun a h z => h (Mu.mem_hide.mpr (.inr z))
  refine ⟨r.len, r.nd, fun a h => r.dis a (List.mem_cons_of_mem _ h), fun a h => r.hid a (List.mem_cons_of_mem _ h), fun i xs q => ?_⟩
  obtain ⟨a, h1, h2⟩ := r.cell i xs q
  exact ⟨a, h1, h2.show_ ⟨[], by simp⟩ ha⟩
theorem RepSt.showC {st : Sto} {D : Addr} {xs : List PV} (hn : D ∉ μ.hid) (r : RepSt G (μ.hide D) H st) (c : Cell G (μ.hide D) H D xs) : RepSt G (μ.more [D]) H (st ++ [xs]) := by
  have hv : ∃ ν, (μ.more [D]).vis = (μ.hide D).vis ++ ν := ⟨[D], rfl⟩
  have ha : ∀ a, a ∉ (μ.hide D).all → a ∉ (μ.more [D]).all := fun a h z => h (Mu.mem_hide.mpr ((Mu.mem_more.mp z).elim .inr fun z => .inl (List.mem_singleton.mp z)))
  refine ⟨?_, ?_, fun a h z => ?_, fun a h => r.hid a (List.mem_cons_of_mem _ h), fun i ys e => ?_⟩
  · show (μ.vis ++ [D]).length = _
    rw [List.length_append, List.length_append, show μ.vis.length = st.length from r.len]; rfl
  · show (μ.vis ++ [D]).Nodup
    rw [List.nodup_append]
    refine ⟨r.nd, by simp, fun a hm b hb => ?_⟩
    rw [List.mem_singleton.mp hb]
    intro z; subst z
    exact r.dis a List.mem_cons_self hm
  · rcases List.mem_append.mp (show a ∈ μ.vis ++ [D] from z) with z | z
    · exact r.dis a (List.mem_cons_of_mem _ h) z
    · rw [List.mem_singleton.mp z] at h; exact hn h
  · by_cases hi : i < st.length
    · rw [List.getElem?_append_left hi] at e
      obtain ⟨a, h1, h2⟩ := r.cell i ys e
      exact ⟨a, by show (μ.vis ++ [D])[i]? = _; rw [List.getElem?_append_left (List.getElem?_eq_some_iff.mp h1).1]; exact h1, h2.show_ hv ha⟩
    · rw [List.getElem?_append_right (by omega)] at e
      have h0 : i - st.length = 0 := by
        cases hz : i - st.length with
        | zero => rfl
        | succ k => rw [hz] at e; simp at e
      rw [h0] at e
      have q' : xs = ys := by simpa using e
      subst q'
      refine ⟨D, ?_, c.show_ hv ha⟩
      show (μ.vis ++ [D])[i]? = _
      have hl : μ.vis.length = st.length := r.len
      rw [List.getElem?_append_right (by rw [hl]; omega), hl, h0]; rfl
theorem RepSt.showL {st : Sto} {D : Addr} {xs : List PV} {vs : List V} (hn : D ∉ μ.hid) (r : RepSt G (μ.hide D) H st) (h : H D = some (.lst vs)) (q : Reps G (μ.hide D) H xs vs) : RepSt G (μ.more [D]) H (st ++ [xs]) :=
  r.showC hn ⟨vs, q, .inl h⟩
end
end Ev

/-! EvPost: an evaluation as a reading of the layer. -/
namespace Ev
open PySem PySem.Spec PyProof.Rows L2

/-- an error as the layer has it -/
def IsEx (G : Pl) (k : Nat) (a : Option PV) (μ : Mu) (H : Hp) (cls : Value) (d : Option Addr) : Prop := cls = .ref (G.ca k) ∧ a = none ∧ d = none ∧ k < G.nc

def Post (G : Pl) (W : WX) (μ : Mu) (H : Hp) (σ : L2.St) {α : Type} (r : R α) (Q : α → Mu → Sto → Hp → Prop) : Prop := match r with
  | .ok a st => ∀ μ' H', Ext μ H μ' H' → RepSt G μ' H' st → Q a μ' st H'
  | .ex k a st => ∀ μ' H' cls d, Ext μ H μ' H' → RepSt G μ' H' st → IsEx G k a μ' H' cls d → W cls d σ H'
  | .bad => False
/-- the state of an evaluation -/
structure RS (G : Pl) (μ : Mu) (H : Hp) (env : Env) (st : Sto) (σ : L2.St) : Prop where
  st : RepSt G μ H st
  env : RepEnv G μ H env σ
theorem RS.mono {G : Pl} {μ μ' : Mu} {H H' : Hp} {env : Env} {st st' : Sto} {σ : L2.St} (r : RS G μ H env st σ) (e : Ext μ H μ' H') (q : RepSt G μ' H' st') : RS G μ' H' env st' σ := ⟨q, r.env.mono e⟩

section
variable {G : Pl} {W : WX} {μ : Mu} {H : Hp} {σ : L2.St} {α β : Type}
theorem Post.mono {r : R α} {Q Q' : α → Mu → Sto → Hp → Prop} (p : Post G W μ H σ r Q) (h : ∀ a μ' st' H', r = .ok a st' → Ext μ H μ' H' → RepSt G μ' H' st' → Q a μ' st' H' → Q' a μ' st' H') : Post G W μ H σ r Q' := by
  cases r with
  | ok a st => exact fun μ' H' e s => h a μ' st H' rfl e s (p μ' H' e s)
  | ex k a st => exact p
  | bad => exact p
theorem Post.ext {r : R α} {Q : α → Mu → Sto → Hp → Prop} {μ1 : Mu} {H1 : Hp} (e : Ext μ H μ1 H1) (p : Post G W μ H σ r Q) : Post G W μ1 H1 σ r Q := by
  cases r with
  | ok a st => exact fun μ' H' e' s => p μ' H' (e.trans e') s
  | ex k a st => exact fun μ' H' cls d e' s => p μ' H' cls d (e.trans e') s
  | bad => exact p
theorem Post.bind {r : R α} {f : α → Sto → R β} {Q : β → Mu → Sto → Hp → Prop} (p : Post G W μ H σ (r.bind f) Q) : Post G W μ H σ r (fun a μ1 st1 H1 => Post G W μ1 H1 σ (f a st1) Q) := by
  cases r with
  | ok a st => exact fun μ' H' e s => Post.ext e p
  | ex k a st => exact p
  | bad => exact p
theorem Post.ok {a : α} {st : Sto} {Q : α → Mu → Sto → Hp → Prop} (p : Post G W μ H σ (.ok a st) Q) (s : RepSt G μ H st) : Q a μ st H := p μ H (Ext.refl s) s
theorem Post.toR {o : Option α} {st : Sto} {Q : α → Mu → Sto → Hp → Prop} (p : Post G W μ H σ (toR o st) Q) (s : RepSt G μ H st) : ∃ a, o = some a ∧ Q a μ st H := by
  cases o with
  | none => exact p.elim
  | some a => exact ⟨a, rfl, Post.ok p s⟩
/-- what is wanted of a value -/
abbrev Val (G : Pl) (Q : VK) : PV → Mu → Sto → Hp → Prop := fun x μ _ H => ∀ v, Rep G μ H x v → Q v H
/-- a new tuple -/
theorem Post.mkT {xs : List PV} {vs : List V} {st : Sto} {Q : VK} (p : Post G W μ H σ (mkT xs st) (Val G Q)) (s : RepSt G μ H st) (r : Reps G μ H xs vs) :
    vs.length ≤ sizeLine ∧ ∀ q, H q = none → Q (.ref q) (upd H q (.tup vs)) := by
  unfold Ev.mkT lineOk at p
  by_cases hl : xs.length ≤ 16777216
  · rw [if_pos (decide_eq_true hl)] at p
    refine ⟨by rw [← r.length, sizeLine_eq]; exact hl, fun q hq => ?_⟩
    have e := Ext.new (G := G) (o := .tup vs) s hq
    exact p μ _ e (s.new hq) (.ref q) ⟨q, vs, rfl, .inl (.inl upd_same), r.mono e⟩
  · rw [if_neg (by simpa using hl)] at p; exact p.elim
/-- a new list -/
theorem Post.mkL {m : Bool} {xs : List PV} {vs : List V} {st : Sto} {Q : VK} (p : Post G W μ H σ (mkL m xs st) (Val G Q)) (s : RepSt G μ H st) (r : Reps G μ H xs vs) :
    vs.length ≤ sizeLine ∧ ∀ q, H q = none → Q (.ref q) (upd H q (.lst vs)) := by
  unfold Ev.mkL lineOk at p
  by_cases hl : xs.length ≤ 16777216
  · rw [if_pos (decide_eq_true hl)] at p
    refine ⟨by rw [← r.length, sizeLine_eq]; exact hl, fun q hq => ?_⟩
    cases m with
    | true =>
      rw [if_pos rfl] at p
      refine p _ _ (Ext.newL (G := G) s hq) (s.newL hq r) (.ref q) ⟨q, rfl, ?_, vs, upd_same⟩
      show (μ.vis ++ [q])[st.length]? = some q
      rw [← s.len, List.getElem?_append_right (Nat.le_refl _), Nat.sub_self]; rfl
    | false =>
      rw [if_neg Bool.false_ne_true] at p
      have e := Ext.new (G := G) (o := .lst vs) s hq
      exact p μ _ e (s.new hq) (.ref q) ⟨q, vs, rfl, s.fresh hq, upd_same, r.mono e⟩
  · rw [if_neg (by simpa using hl)] at p; exact p.elim
end

/-! ### items -/
section
variable {G : Pl} {μ : Mu} {H : Hp} {st : Sto}
theorem rep_litems (s : RepSt G μ H st) {x : PV} {v : V} {xs : List PV} (h : Rep G μ H x v) (e : litems st x = some xs) : ∃ a vs, v = .ref a ∧ H a = some (.lst vs) ∧ Reps G μ H xs vs := by
  cases x <;> simp only [litems] at e <;> try cases e
  · obtain ⟨a, vs, h1, _, h3, h4⟩ := h
    exact ⟨a, vs, h1, h3, h4⟩
  · obtain ⟨a, h1, h2, h3⟩ := h
    obtain ⟨vs, q2, q3⟩ := s.at_ _ _ e h2 h3
    exact ⟨a, vs, h1, q2, q3⟩
theorem scr_sql {xs : List PV} {v : V} (h : Rep G μ H (.scr xs) v) : ∃ a vs, v = .ref a ∧ SqL G.K H a vs ∧ Reps G μ H xs vs := by
  obtain ⟨a, vs, h1, h2, h3⟩ := h
  exact ⟨a, vs, h1, h2.elim (fun z => .inl z.2) .inr, h3⟩
theorem rep_items (s : RepSt G μ H st) {x : PV} {v : V} {xs : List PV} (h : Rep G μ H x v) (e : items st x = some xs) : ∃ a vs, v = .ref a ∧ (SqL G.K H a vs ∨ SqT G.K H a vs) ∧ Reps G μ H xs vs := by
  cases x <;> simp only [items] at e <;> try cases e
  · obtain ⟨a, vs, h1, h3, h4⟩ := h
    exact ⟨a, vs, h1, .inr h3, h4⟩
  · obtain ⟨a, vs, h1, _, h3, h4⟩ := h
    exact ⟨a, vs, h1, .inl (SqL.of h3), h4⟩
  · obtain ⟨a, vs, h1, h3, h4⟩ := scr_sql h
    exact ⟨a, vs, h1, .inl h3, h4⟩
  · obtain ⟨a, h1, h2, h3⟩ := h
    obtain ⟨vs, q2, q3⟩ := s.at_ _ _ e h2 h3
    exact ⟨a, vs, h1, .inl (SqL.of q2), q3⟩
theorem reps_ints : ∀ {xs : List PV} {ns : List Int} {vs : List V}, intsV xs = some ns → Reps G μ H xs vs → vs = ns.map V.int
  | [], ns, vs, e, h => by
    have : ns = [] := by simpa [intsV] using e.symm
    subst this
    exact h
  | .int i :: r, ns, vs, e, h => by
    simp only [intsV, Option.map_eq_some_iff] at e
    obtain ⟨ms, e1, e2⟩ := e
    obtain ⟨v, w, h1, h2, h3⟩ := h
    have h2' : v = .int i := h2
    subst e2 h1 h2'
    rw [reps_ints e1 h3, List.map_cons]
  | .non :: r, _, _, e, _ => by simp [intsV] at e
  | .bl _ :: r, _, _, e, _ => by simp [intsV] at e
  | .str _ :: r, _, _, e, _ => by simp [intsV] at e
  | .tup _ :: r, _, _, e, _ => by simp [intsV] at e
  | .pl _ :: r, _, _, e, _ => by simp [intsV] at e
  | .scr _ :: r, _, _, e, _ => by simp [intsV] at e
  | .ml _ :: r, _, _, e, _ => by simp [intsV] at e
  | .fn _ :: r, _, _, e, _ => by simp [intsV] at e
  | .exn :: r, _, _, e, _ => by simp [intsV] at e
  | .dic _ _ :: r, _, _, e, _ => by simp [intsV] at e
  | .md _ :: r, _, _, e, _ => by simp [intsV] at e
theorem reps_bools : ∀ {xs : List PV} {ns : List Bool} {vs : List V}, boolsV xs = some ns → Reps G μ H xs vs → vs = ns.map V.bl
  | [], ns, vs, e, h => by
    have : ns = [] := by simpa [boolsV] using e.symm
    subst this
    exact h
  | .bl i :: r, ns, vs, e, h => by
    simp only [boolsV, Option.map_eq_some_iff] at e
    obtain ⟨ms, e1, e2⟩ := e
    obtain ⟨v, w, h1, h2, h3⟩ := h
    have h2' : v = .bl i := h2
    subst e2 h1 h2'
    rw [reps_bools e1 h3, List.map_cons]
  | .non :: r, _, _, e, _ => by simp [boolsV] at e
  | .int _ :: r, _, _, e, _ => by simp [boolsV] at e
  | .str _ :: r, _, _, e, _ => by simp [boolsV] at e
  | .tup _ :: r, _, _, e, _ => by simp [boolsV] at e
  | .pl _ :: r, _, _, e, _ => by simp [boolsV] at e
  | .scr _ :: r, _, _, e, _ => by simp [boolsV] at e
  | .ml _ :: r, _, _, e, _ => by simp [boolsV] at e
  | .fn _ :: r, _, _, e, _ => by simp [boolsV] at e
  | .exn :: r, _, _, e, _ => by simp [boolsV] at e
  | .dic _ _ :: r, _, _, e, _ => by simp [boolsV] at e
  | .md _ :: r, _, _, e, _ => by simp [boolsV] at e
end

/-! ### plain data -/
section
variable {G : Pl} {μ : Mu} {H : Hp}
mutual
theorem rep_dp : ∀ {d : Nat} (x : PV) {v : V}, plain d x = true → Rep G μ H x v → Dp G.K H v (toD x)
  | _, .non, _, _, h => by rw [show _ = V.non from h]; exact .non
  | _, .bl b, _, _, h => by rw [show _ = V.bl b from h]; exact .bl b
  | _, .int b, _, _, h => by rw [show _ = V.int b from h]; exact .int b
  | _, .str b, _, _, h => by rw [show _ = V.str ⟨b.toArray⟩ from h]; exact .str _
  | 0, .tup xs, _, p, _ => by simp [plain] at p
  | 0, .pl xs, _, p, _ => by simp [plain] at p
  | d + 1, .tup xs, _, p, ⟨a, vs, h1, h2, h3⟩ => by
    rw [h1]; exact .tup h2 (reps_dp (d := d) xs (by simpa [plain] using p) h3)
  | d + 1, .pl xs, _, p, ⟨a, vs, h1, _, h2, h3⟩ => by
    rw [h1]; exact .lst (SqL.of h2) (reps_dp (d := d) xs (by simpa [plain] using p) h3)
  | _, .scr _, _, p, _ => by simp [plain] at p
  | _, .ml _, _, p, _ => by simp [plain] at p
  | _, .fn _, _, p, _ => by simp [plain] at p
  | _, .exn, _, p, _ => by simp [plain] at p
  | _, .dic _ _, _, p, _ => by simp [plain] at p
  | _, .md _, _, p, _ => by simp [plain] at p
theorem reps_dp : ∀ {d : Nat} (xs : List PV) {vs : List V}, plains d xs = true → Reps G μ H xs vs → DpAll G.K H vs (toDs xs)
  | _, [], _, _, h => by rw [show _ = [] from h]; exact .nil
  | d, x :: xs, _, p, ⟨v, r, h1, h2, h3⟩ => by
    rw [h1]
    have p' : plain d x = true ∧ plains d xs = true := by simpa [plains] using p
    exact .cons (rep_dp x p'.1 h2) (reps_dp xs p'.2 h3)
end
end
mutual
theorem plain_lay : ∀ {d : Nat} (x : PV), plain d x = true → (toD x).canLay0 = true ∧ (toD x).depth ≤ d
  | d, .non, _ => by simp [toD, PyData.canLay0, PyData.depth]
  | d, .bl _, _ => by simp [toD, PyData.canLay0, PyData.depth]
  | d, .int _, _ => by simp [toD, PyData.canLay0, PyData.depth]
  | d, .str x, h => by
    have h' : ∀ c ∈ x, c < 1114112 := by simpa [plain] using h
    refine ⟨?_, by simp [toD, PyData.depth]⟩
    simp only [toD, PyData.canLay0, PyData.strOk]
    rw [Array.all_eq_true]
    intro i hi
    simpa using h' _ (List.getElem_mem _)
  | 0, .tup xs, p => by simp [plain] at p
  | 0, .pl xs, p => by simp [plain] at p
  | d + 1, .tup xs, p => by
    have h := plains_lay (d := d) xs (by simpa [plain] using p)
    simp only [toD, PyData.canLay0, PyData.depth]; exact ⟨h.1, by omega⟩
  | d + 1, .pl xs, p => by
    have h := plains_lay (d := d) xs (by simpa [plain] using p)
    simp only [toD, PyData.canLay0, PyData.depth]; exact ⟨h.1, by omega⟩
  | _, .scr _, p => by simp [plain] at p
  | _, .ml _, p => by simp [plain] at p
  | _, .fn _, p => by simp [plain] at p
  | _, .exn, p => by simp [plain] at p
  | _, .dic _ _, p => by simp [plain] at p
  | _, .md _, p => by simp [plain] at p
theorem plains_lay : ∀ {d : Nat} (xs : List PV), plains d xs = true → PyData.canLayAll0 (toDs xs) = true ∧ PyData.depthAll (toDs xs) ≤ d
  | d, [], _ => by simp [toDs, PyData.canLayAll0, PyData.depthAll]
  | d, x :: xs, p => by
    have p' : plain d x = true ∧ plains d xs = true := by simpa [plains] using p
    have h1 := plain_lay x p'.1
    have h2 := plains_lay xs p'.2
    simp only [toDs, PyData.canLayAll0, PyData.depthAll, h1.1, h2.1, Bool.and_self, true_and]
    omega
end
theorem str_beq (x y : List Nat) : ((⟨x.toArray⟩ : Str) == ⟨y.toArray⟩) = (x == y) := by
  rw [Bool.eq_iff_iff, beq_iff_eq, beq_iff_eq]
  constructor
  · intro h
    have h' : x.toArray = y.toArray := by injection h
    simpa using congrArg Array.toList h'
  · intro h; rw [h]
mutual
theorem peq_eqv : ∀ {d e : Nat} (x y : PV), plain d x = true → plain e y = true → PyData.eqv (toD x) (toD y) = peq x y
  | 0, _, .tup _, _, hx, _ => by simp [plain] at hx
  | 0, _, .pl _, _, hx, _ => by simp [plain] at hx
  | _, 0, _, .tup _, _, hy => by simp [plain] at hy
  | _, 0, _, .pl _, _, hy => by simp [plain] at hy
  | d + 1, e + 1, .tup xs, .tup ys, hx, hy => by
    have := peqs_eqv (d := d) (e := e) xs ys (by simpa [plain] using hx) (by simpa [plain] using hy)
    simpa only [toD, PyData.eqv, peq] using this
  | d + 1, e + 1, .pl xs, .pl ys, hx, hy => by
    have := peqs_eqv (d := d) (e := e) xs ys (by simpa [plain] using hx) (by simpa [plain] using hy)
    simpa only [toD, PyData.eqv, peq] using this
  | _, _, .str x, .str y, _, _ => by simp only [toD, PyData.eqv, peq]; exact str_beq x y
  | _, _, .non, y, _, hy => by cases y <;> simp_all [toD, PyData.eqv, peq, plain]
  | _, _, .bl _, y, _, hy => by cases y <;> simp_all [toD, PyData.eqv, peq, plain]
  | _, _, .int _, y, _, hy => by cases y <;> simp_all [toD, PyData.eqv, peq, plain]
  | _, _, .scr _, y, hx, hy => by simp [plain] at hx
  | _, _, .ml _, y, hx, hy => by simp [plain] at hx
  | _, _, .fn _, y, hx, hy => by simp [plain] at hx
  | _, _, .exn, y, hx, hy => by simp [plain] at hx
  | _, _, .dic _ _, y, hx, hy => by simp [plain] at hx
  | _, _, .md _, y, hx, hy => by simp [plain] at hx
  | _, _, .str _, .non, _, _ => by simp [toD, PyData.eqv, peq]
  | _, _, .str _, .bl _, _, _ => by simp [toD, PyData.eqv, peq]
  | _, _, .str _, .int _, _, _ => by simp [toD, PyData.eqv, peq]
  | _, _ + 1, .str _, .tup _, _, _ => by simp [toD, PyData.eqv, peq]
  | _, _ + 1, .str _, .pl _, _, _ => by simp [toD, PyData.eqv, peq]
  | _ + 1, _, .tup _, .non, _, _ => by simp [toD, PyData.eqv, peq]
  | _ + 1, _, .tup _, .bl _, _, _ => by simp [toD, PyData.eqv, peq]
  | _ + 1, _, .tup _, .int _, _, _ => by simp [toD, PyData.eqv, peq]
  | _ + 1, _, .tup _, .str _, _, _ => by simp [toD, PyData.eqv, peq]
  | _ + 1, _ + 1, .tup _, .pl _, _, _ => by simp [toD, PyData.eqv, peq]
  | _ + 1, _, .pl _, .non, _, _ => by simp [toD, PyData.eqv, peq]
  | _ + 1, _, .pl _, .bl _, _, _ => by simp [toD, PyData.eqv, peq]
  | _ + 1, _, .pl _, .int _, _, _ => by simp [toD, PyData.eqv, peq]
  | _ + 1, _, .pl _, .str _, _, _ => by simp [toD, PyData.eqv, peq]
  | _ + 1, _ + 1, .pl _, .tup _, _, _ => by simp [toD, PyData.eqv, peq]
  | _, _, _, .scr _, hx, hy => by simp [plain] at hy
  | _, _, _, .ml _, hx, hy => by simp [plain] at hy
  | _, _, _, .fn _, hx, hy => by simp [plain] at hy
  | _, _, _, .exn, hx, hy => by simp [plain] at hy
  | _, _, _, .dic _ _, hx, hy => by simp [plain] at hy
  | _, _, _, .md _, hx, hy => by simp [plain] at hy
theorem peqs_eqv : ∀ {d e : Nat} (xs ys : List PV), plains d xs = true → plains e ys = true → PyData.eqvAll (toDs xs) (toDs ys) = peqs xs ys
  | _, _, [], [], _, _ => by simp [toDs, PyData.eqvAll, peqs]
  | _, _, [], _ :: _, _, _ => by simp [toDs, PyData.eqvAll, peqs]
  | _, _, _ :: _, [], _, _ => by simp [toDs, PyData.eqvAll, peqs]
  | d, e, x :: xs, y :: ys, hx, hy => by
    have hx' : plain d x = true ∧ plains d xs = true := by simpa [plains] using hx
    have hy' : plain e y = true ∧ plains e ys = true := by simpa [plains] using hy
    simp only [toDs, PyData.eqvAll, peqs, peq_eqv x y hx'.1 hy'.1, peqs_eqv xs ys hx'.2 hy'.2]
end
theorem plain_shaped {d : Nat} {x : PV} (h : plain d x = true) (hd : d ≤ 64) : SeqAt.shaped (toD x) = true := by
  have q := plain_lay x h
  show ((toD x).canLay0 && decide ((toD x).depth ≤ 64)) = true
  rw [Bool.and_eq_true]
  exact ⟨q.1, decide_eq_true (by omega)⟩
theorem plains_shaped {d : Nat} {xs : List PV} (h : plains d xs = true) (hd : d + 1 ≤ 64) : SeqAt.shaped (.list (toDs xs)) = true := by
  have q := plains_lay xs h
  show (PyData.canLay0 (.list (toDs xs)) && decide (PyData.depth (.list (toDs xs)) ≤ 64)) = true
  rw [Bool.and_eq_true]
  exact ⟨by simp only [PyData.canLay0]; exact q.1, decide_eq_true (by simp only [PyData.depth]; omega)⟩
end Ev

/-! EvDi: dicts whose keys are tuples. -/
namespace Ev
open PySem PySem.Spec PyProof.Rows L2
mutual
theorem keyK_depth : ∀ {d : Nat} (x : PV) {k : NestedKey}, keyK d x = some k → k.depth ≤ d
  | d, .non, k, h => by cases h; simp [NestedKey.depth]
  | d, .bl _, k, h => by cases h; simp [NestedKey.depth]
  | d, .int _, k, h => by cases h; simp [NestedKey.depth]
  | d, .str _, k, h => by cases h; simp [NestedKey.depth]
  | 0, .tup xs, k, h => by simp [keyK] at h
  | d + 1, .tup xs, k, h => by
    have h' : (keysK d xs).map .tup = some k := by simpa [keyK] using h
    obtain ⟨l, e, rfl⟩ := Option.map_eq_some_iff.mp h'
    have := keysK_depth xs e
    simp only [NestedKey.depth]; omega
  | d, .pl _, k, h => by simp [keyK] at h
  | d, .scr _, k, h => by simp [keyK] at h
  | d, .ml _, k, h => by simp [keyK] at h
  | d, .fn _, k, h => by simp [keyK] at h
  | d, .exn, k, h => by simp [keyK] at h
  | d, .dic _ _, k, h => by simp [keyK] at h
  | d, .md _, k, h => by simp [keyK] at h
theorem keysK_depth : ∀ {d : Nat} (xs : List PV) {k : List NestedKey}, keysK d xs = some k → NestedKey.depthAll k ≤ d
  | d, [], k, h => by
    have : k = [] := by simpa [keysK] using h.symm
    subst this; simp [NestedKey.depthAll]
  | d, x :: xs, k, h => by
    rw [keysK] at h
    split at h
    · rename_i a r e1 e2
      cases h
      have h1 := keyK_depth x e1
      have h2 := keysK_depth xs e2
      simp only [NestedKey.depthAll]; omega
    · cases h
end
theorem keyK_inv {d : Nat} {x : PV} {k : NestedKey} (h : keyK d x = some k) : (x = .non ∧ k = .none) ∨ (∃ b, x = .bl b ∧ k = .num (if b then 1 else 0)) ∨ (∃ i, x = .int i ∧ k = .num i) ∨ (∃ z, x = .str z ∧ k = .text ⟨z.toArray⟩) ∨ ∃ xs e l, x = .tup xs ∧ d = e + 1 ∧ keysK e xs = some l ∧ k = .tup l := by
  cases x with
  | non => cases h; exact .inl ⟨rfl, rfl⟩
  | bl b => cases h; exact .inr (.inl ⟨b, rfl, rfl⟩)
  | int i => cases h; exact .inr (.inr (.inl ⟨i, rfl, rfl⟩))
  | str z => cases h; exact .inr (.inr (.inr (.inl ⟨z, rfl, rfl⟩)))
  | tup xs =>
    cases d with
    | zero => simp [keyK] at h
    | succ e =>
      have h' : (keysK e xs).map NestedKey.tup = some k := by simpa [keyK] using h
      obtain ⟨l, e1, rfl⟩ := Option.map_eq_some_iff.mp h'
      exact .inr (.inr (.inr (.inr ⟨xs, e, l, rfl, rfl, e1, rfl⟩)))
  | _ => simp [keyK] at h
theorem keysK_nil {d : Nat} {k : List NestedKey} (h : keysK d [] = some k) : k = [] := by simpa [keysK] using h.symm
theorem keysK_cons {d : Nat} {x : PV} {xs : List PV} {k : List NestedKey} (h : keysK d (x :: xs) = some k) : ∃ a r, keyK d x = some a ∧ keysK d xs = some r ∧ k = a :: r := by
  rw [keysK] at h
  split at h
  · rename_i a r e1 e2
    cases h
    exact ⟨a, r, e1, e2, rfl⟩
  · cases h
theorem beq_int (i j : Int) : (i == j) = decide (i = j) := by
  by_cases h : i = j
  · subst h; simp
  · rw [decide_eq_false h]; simpa using h
theorem str_dec (x y : List Nat) : (x == y) = decide ((⟨x.toArray⟩ : Str) = ⟨y.toArray⟩) := by
  by_cases h : x = y
  · subst h; simp
  · have h' : ¬ ((⟨x.toArray⟩ : Str) = ⟨y.toArray⟩) := fun z => h (SX.S_inj z)
    rw [decide_eq_false h']
    simpa using h
theorem peq_flat {d e : Nat} {x y : PV} {a b : NestedKey} (hx : keyK d x = some a) (hy : keyK e y = some b) (h : (∀ xs, x ≠ .tup xs) ∨ ∀ xs, y ≠ .tup xs) : peq x y = NestedKey.beq a b := by
  rcases keyK_inv hx with ⟨rfl, rfl⟩ | ⟨p, rfl, rfl⟩ | ⟨p, rfl, rfl⟩ | ⟨p, rfl, rfl⟩ | ⟨xs, _, l, rfl, _, _, rfl⟩ <;>
  rcases keyK_inv hy with ⟨rfl, rfl⟩ | ⟨q, rfl, rfl⟩ | ⟨q, rfl, rfl⟩ | ⟨q, rfl, rfl⟩ | ⟨ys, _, m, rfl, _, _, rfl⟩ <;>
  first
  | rfl
  | (simp only [peq, NestedKey.beq]; cases p <;> cases q <;> rfl)
  | (simp only [peq, NestedKey.beq]; exact beq_int _ _)
  | (simp only [peq, NestedKey.beq]; cases p <;> exact beq_int _ _)
  | (simp only [peq, NestedKey.beq]; cases q <;> exact beq_int _ _)
  | (simp only [peq, NestedKey.beq]; exact str_dec _ _)
  | (simp [peq, NestedKey.beq]; done)
  | (rcases h with h | h <;> exact absurd rfl (h _))
mutual
theorem peq_key : ∀ {d e : Nat} (x y : PV) {a b : NestedKey}, keyK d x = some a → keyK e y = some b → peq x y = NestedKey.beq a b
  | d, e, .tup xs, .tup ys, a, b, hx, hy => by
    rcases keyK_inv hx with ⟨z, _⟩ | ⟨_, z, _⟩ | ⟨_, z, _⟩ | ⟨_, z, _⟩ | ⟨xs', d', l, z, rfl, e1, rfl⟩ <;> cases z
    rcases keyK_inv hy with ⟨z, _⟩ | ⟨_, z, _⟩ | ⟨_, z, _⟩ | ⟨_, z, _⟩ | ⟨ys', e', m, z, rfl, e2, rfl⟩ <;> cases z
    simp only [peq, NestedKey.beq]
    exact peqs_key xs ys e1 e2
  | _, _, .tup _, .non, _, _, hx, hy => peq_flat hx hy (.inr fun _ z => nomatch z)
  | _, _, .tup _, .bl _, _, _, hx, hy => peq_flat hx hy (.inr fun _ z => nomatch z)
  | _, _, .tup _, .int _, _, _, hx, hy => peq_flat hx hy (.inr fun _ z => nomatch z)
  | _, _, .tup _, .str _, _, _, hx, hy => peq_flat hx hy (.inr fun _ z => nomatch z)
  | _, _, .tup _, .pl _, _, _, hx, hy => peq_flat hx hy (.inr fun _ z => nomatch z)
  | _, _, .tup _, .scr _, _, _, hx, hy => peq_flat hx hy (.inr fun _ z => nomatch z)
  | _, _, .tup _, .ml _, _, _, hx, hy => peq_flat hx hy (.inr fun _ z => nomatch z)
  | _, _, .tup _, .fn _, _, _, hx, hy => peq_flat hx hy (.inr fun _ z => nomatch z)
  | _, _, .tup _, .exn, _, _, hx, hy => peq_flat hx hy (.inr fun _ z => nomatch z)
  | _, _, .tup _, .dic _ _, _, _, hx, hy => peq_flat hx hy (.inr fun _ z => nomatch z)
  | _, _, .tup _, .md _, _, _, hx, hy => peq_flat hx hy (.inr fun _ z => nomatch z)
  | _, _, .non, _, _, _, hx, hy => peq_flat hx hy (.inl fun _ z => nomatch z)
  | _, _, .bl _, _, _, _, hx, hy => peq_flat hx hy (.inl fun _ z => nomatch z)
  | _, _, .int _, _, _, _, hx, hy => peq_flat hx hy (.inl fun _ z => nomatch z)
  | _, _, .str _, _, _, _, hx, hy => peq_flat hx hy (.inl fun _ z => nomatch z)
  | _, _, .pl _, _, _, _, hx, hy => peq_flat hx hy (.inl fun _ z => nomatch z)
  | _, _, .scr _, _, _, _, hx, hy => peq_flat hx hy (.inl fun _ z => nomatch z)
  | _, _, .ml _, _, _, _, hx, hy => peq_flat hx hy (.inl fun _ z => nomatch z)
  | _, _, .fn _, _, _, _, hx, hy => peq_flat hx hy (.inl fun _ z => nomatch z)
  | _, _, .exn, _, _, _, hx, hy => peq_flat hx hy (.inl fun _ z => nomatch z)
  | _, _, .dic _ _, _, _, _, hx, hy => peq_flat hx hy (.inl fun _ z => nomatch z)
  | _, _, .md _, _, _, _, hx, hy => peq_flat hx hy (.inl fun _ z => nomatch z)
theorem peqs_key : ∀ {d e : Nat} (xs ys : List PV) {a b : List NestedKey}, keysK d xs = some a → keysK e ys = some b → peqs xs ys = NestedKey.beqAll a b
  | d, e, [], [], _, _, hx, hy => by
    rw [keysK_nil hx, keysK_nil hy]; rfl
  | d, e, [], y :: ys, _, _, hx, hy => by
    obtain ⟨_, _, _, _, rfl⟩ := keysK_cons hy
    rw [keysK_nil hx]; rfl
  | d, e, x :: xs, [], _, _, hx, hy => by
    obtain ⟨_, _, _, _, rfl⟩ := keysK_cons hx
    rw [keysK_nil hy]; rfl
  | d, e, x :: xs, y :: ys, _, _, hx, hy => by
    obtain ⟨a, r, e1, e2, rfl⟩ := keysK_cons hx
    obtain ⟨b, l, e3, e4, rfl⟩ := keysK_cons hy
    simp only [peqs, NestedKey.beqAll, peq_key x y e1 e3, peqs_key xs ys e2 e4]
end
theorem keyT_tup {x : PV} {k : NestedKey} (h : keyT x = some k) : (∃ xs, x = .tup xs) ∧ keyK 8 x = some k := by
  cases x <;> first | exact ⟨⟨_, rfl⟩, h⟩ | cases h
theorem peq_keyT {x y : PV} {a b : NestedKey} (hx : keyT x = some a) (hy : keyT y = some b) : peq x y = decide (a = b) := by
  rw [peq_key x y (keyT_tup hx).2 (keyT_tup hy).2, NestedKey.decide_eq]

section
variable {X : Cx} {pins : List (Addr × Obj)} {σ : L2.St} {H : Hp} {s : Shared} {G : Pl} {μ : Mu}
mutual
theorem key_is (hK : X.K = G.K) (I : Inv X pins σ H s) : ∀ {d : Nat} (x : PV) {k : NestedKey} {v : V} {u : Value}, keyK d x = some k → Rep G μ H x v → RelV v u → NestedIs s.heap k u
  | d, .non, k, v, u, h, r, q => by cases h; cases (show v = .non from r); cases q; exact .none
  | d, .bl b, k, v, u, h, r, q => by cases h; cases (show v = .bl b from r); cases q; exact .bool rfl
  | d, .int i, k, v, u, h, r, q => by cases h; cases (show v = .int i from r); obtain ⟨t, rfl⟩ := q; exact .int i t
  | d, .str z, k, v, u, h, r, q => by cases h; cases (show v = .str ⟨z.toArray⟩ from r); obtain ⟨t, rfl⟩ := q; exact .text _ t
  | 0, .tup xs, k, v, u, h, r, q => by simp [keyK] at h
  | d + 1, .tup xs, k, v, u, h, ⟨a, vs, h1, h2, h3⟩, q => by
    subst h1
    obtain rfl : u = .ref a := q
    have h' : (keysK d xs).map .tup = some k := by simpa [keyK] using h
    obtain ⟨l, e, rfl⟩ := Option.map_eq_some_iff.mp h'
    obtain ⟨its, r2, ⟨o, ho, hc, n, hd⟩, _⟩ := I.tuple (hK ▸ h2)
    exact .tup ho hc hd (keys_are hK I xs e h3 r2)
  | d, .pl _, k, v, u, h, r, q => by simp [keyK] at h
  | d, .scr _, k, v, u, h, r, q => by simp [keyK] at h
  | d, .ml _, k, v, u, h, r, q => by simp [keyK] at h
  | d, .fn _, k, v, u, h, r, q => by simp [keyK] at h
  | d, .exn, k, v, u, h, r, q => by simp [keyK] at h
  | d, .dic _ _, k, v, u, h, r, q => by simp [keyK] at h
  | d, .md _, k, v, u, h, r, q => by simp [keyK] at h
theorem keys_are (hK : X.K = G.K) (I : Inv X pins σ H s) : ∀ {d : Nat} (xs : List PV) {k : List NestedKey} {vs : List V} {us : List Value}, keysK d xs = some k → Reps G μ H xs vs → Vals vs us → NestedAll s.heap k us
  | d, [], k, vs, us, h, r, q => by
    rw [keysK] at h; cases h
    rw [show vs = [] from r] at q
    cases q; exact .nil
  | d, x :: xs, k, vs, us, h, ⟨v, w, h1, h2, h3⟩, q => by
    rw [keysK] at h
    split at h
    · rename_i a r e1 e2
      cases h
      subst h1
      cases q with
      | cons q1 q2 => exact .cons (key_is hK I x e1 h2 q1) (keys_are hK I xs e2 h3 q2)
    · cases h
end
theorem key_kind (hK : X.K = G.K) (I : Inv X pins σ H s) {x : PV} {k : NestedKey} {b : Addr} (h : keyT x = some k) (r : Rep G μ H x (.ref b)) : (nestedKind X.prog X.w).is s.heap k b :=
  ⟨key_is hK I x (keyT_tup h).2 r rfl, keyK_depth x (keyT_tup h).2⟩
theorem key_ref {x : PV} {k : NestedKey} {v : V} (h : keyT x = some k) (r : Rep G μ H x v) : ∃ b, v = .ref b := by
  obtain ⟨⟨xs, rfl⟩, _⟩ := keyT_tup h
  obtain ⟨a, _, e, _⟩ := r
  exact ⟨a, e⟩
theorem dO_at {a : Addr} {o : Obj} (I : Inv X pins σ H s) (h : H a = some (dO a o)) : s.heap.get? a = some o := by
  have x : ObjOk X.prog X.w H s.heap a (.ext fun h => h.get? a = some o) := I.hok a _ h
  exact x.1
theorem dO_ok {P : Program} {w : World} {H : Hp} {h : Heap} {a : Addr} {o : Obj} (e : h.get? a = some o) : ObjOk P w H h a (dO a o) := ⟨e, ⟨o, e⟩, fun h1 h2 z k => k o z⟩
theorem ents_kind (hK : X.K = G.K) (I : Inv X pins σ H s) : ∀ {xs : List PV} {vs : List V} {ys : List Ent}, keysT xs = some (ys.map (·.1)) → Ents vs ys → Reps G μ H xs vs → ∀ y ∈ ys, (nestedKind X.prog X.w).is s.heap y.1 y.2.1
  | [], vs, ys, h, e, r, y, hy => by
    rw [show vs = [] from r] at e
    rw [show ys = [] from e] at hy; cases hy
  | [x], vs, ys, h, e, r, y, hy => by simp [keysT] at h
  | x :: z :: xs, vs, ys, h, e, ⟨v, r, e1, h1, w, r', e2, h2, h3⟩, y, hy => by
    subst e2 e1
    obtain ⟨nk, b, u, l, rfl, rfl, q1, q2⟩ := e
    rw [keysT] at h
    split at h
    · rename_i a t e3 e4
      simp only [List.map_cons, Option.some.injEq, List.cons.injEq] at h
      obtain ⟨rfl, rfl⟩ := h
      rcases List.mem_cons.mp hy with rfl | hy
      · exact key_kind hK I e3 h1
      · exact ents_kind hK I (xs := xs) e4 q2 h3 y hy
    · cases h
/-- the layer's dict as the library has it -/
theorem dict_of (hK : X.K = G.K) (hw : X.w = G.w) (I : Inv X pins σ H s) {a : Addr} {o : Obj} {xs : List PV} {vs : List V} {ys : List Ent} (h : H a = some (dO a o)) (D : DictO G.w a o ys) (hk : keysT xs = some (ys.map (·.1))) (e : Ents vs ys) (r : Reps G μ H xs vs) :
    s.heap.DictOfH (nestedKind X.prog X.w) a ys := by
  obtain ⟨es, h1, h2⟩ := D.dat
  refine ⟨o, es, _, dO_at I h, D.ex, h1, ?_, ents_kind hK I hk e r, D.nd⟩
  rw [h2, ← hw]; rfl
/-- a store, the epoch the number of keys -/
theorem put_counted {P : Program} {w : World} {A : Around} {E : Value → Shared → Prop} {s : Shared} {a b : Addr} {o : Obj} {ys : List Ent} {k : NestedKey} {u : Value} {Q : Unit → Shared → Prop} (room : (nestedKind P w).room A) (kis : (nestedKind P w).is s.heap k b) (ho : s.heap.get? a = some o) (D : DictO w a o ys)
    (ents : ∀ y ∈ ys, (nestedKind P w).is s.heap y.1 y.2.1) (fits : ys.length ≤ sizeLine) (q : ∀ h' o', h'.get? a = some o' → DictO w a o' (storedH ys k b u) → Heap.SameBut a s.heap h' → Q () { s with heap := h', toks := s.toks + (nestedKind P w).draws k }) :
    wpAny (model P w) A (dictSet a (.ref b) u) Q E s := by
  obtain ⟨es, hd, he0⟩ := D.dat
  have he : es.toList = ys.map (entryOfKey (nestedKind P w)) := he0
  unfold dictSet
  try (with_reducible refine wpAny_holding ?_)
  refine wpAny_bind ((nestedKind P w).pyHash room kis ?_)
  unfold dictSetHashed
  try (with_reducible refine wpAny_holding ?_)
  refine wpAny_bind (wpAny_dictFind_heap (s := { s with toks := s.toks + (nestedKind P w).draws k }) room kis ho hd he ents D.nd (fun fresh => ?_) fun j p hj => ?_)
  · have hs : storedH ys k b u = ys ++ [(k, b, u)] := storedH_new (atKey_none_of_get fresh) b u
    have hnot : k ∉ ys.map (·.1) := not_mem_keys_of_get fresh
    refine wpAny_bind (wpAny_rule (wpAny_updateDictKeys (hz := by have z := size_of_entries he; omega) (s := { s with toks := s.toks + (nestedKind P w).draws k }) ho hd
      (q _ _ (Heap.get?_update_self _ ho (Obj.isFreed_of_dict (Obj.data_mapDictKeys hd _))) ⟨D.ex.mapDictKeys _, ⟨_, (Obj.data_mapDictKeys hd _).trans (by rw [hs, List.length_append]; rfl), ?_⟩, ?_, D.nsys⟩ (Heap.SameBut.update ..))))
    · rw [hs, List.map_append, Array.toList_push, he0]
      rfl
    · rw [hs, List.map_append, List.nodup_append]
      exact ⟨D.nd, by simp, fun x hx y hy e => hnot (by
        have : y = k := by simpa using hy
        rw [← this, ← e]; exact hx)⟩
  · have hs : storedH ys k b u = ys.map (putAt k u) := storedH_old (atKey_of_get D.nd hj) b u
    refine wpAny_bind (wpAny_rule (wpAny_bind (wpAny_updateDict (s := { s with toks := s.toks + (nestedKind P w).draws k }) ho hd (wpAny_point
      (q _ _ (Heap.get?_update_self _ ho (Obj.isFreed_of_dict (Obj.data_mapDict hd _))) ⟨D.ex.mapDict _, ⟨_, (Obj.data_mapDict hd _).trans (by rw [hs, List.length_map]), ?_⟩, ?_, D.nsys⟩ (Heap.SameBut.update ..))))))
    · rw [hs]
      have z := modify_map_putAt (entryOfKey (nestedKind P w)) (fun e : DictEntry => { e with val := u }) k u (fun _ _ => rfl) D.nd hj
      rw [← he] at z
      rw [show ∀ l : List Ent, l.map (entN w) = l.map (entryOfKey (nestedKind P w)) from fun _ => rfl]
      obtain ⟨l⟩ := es
      simpa using z
    · rw [hs, keys_map_putAt]; exact D.nd
theorem item_counted {P : Program} {w : World} {A : Around} {E : Value → Shared → Prop} {s : Shared} {a b : Addr} {o : Obj} {ys : List Ent} {k : NestedKey} {u : Value} {Q : Unit → Shared → Prop} (room : (nestedKind P w).room A.in1) (kis : (nestedKind P w).is s.heap k b) (ho : s.heap.get? a = some o) (D : DictO w a o ys)
    (ents : ∀ y ∈ ys, (nestedKind P w).is s.heap y.1 y.2.1) (fits : ys.length ≤ sizeLine) (q : ∀ h' o', h'.get? a = some o' → DictO w a o' (storedH ys k b u) → Heap.SameBut a s.heap h' → Q () { s with heap := h', toks := s.toks + (nestedKind P w).draws k }) :
    wpAny (model P w) A (setItem (.ref a) (.ref b) u) Q E s := by
  have ty : s.TypeIs (.ref a) "dict" := ⟨o, ho, D.ex.1⟩
  unfold setItem
  try (with_reducible refine wpAny_holding ?_)
  refine wpAny_bind (wpAny_sequenceKey ty (by decide) ?_)
  refine wpAny_bind (wpAny_callSpecial?_slot (name := Str.ofString "__setitem__") ty PySem.F.slot_dict_setitem
    (wpAny_call_entry PySem.F.slot_dict_setitem ty PySem.F.entry_dict_setitem ?_ (args_dict_setitem _ _ _)))
  show wpAny _ _ (Builtin.Dict.notOrdered "__setitem__" ⟨[.ref a, .ref b, u], []⟩ >>= _) _ _ s
  refine wpAny_bind (wpAny_notOrdered_dict ty ?_)
  show wpAny _ _ (dictSet a (.ref b) u >>= _) _ _ s
  exact wpAny_bind (put_counted room kis ho D ents fits fun h' o' z1 z2 z3 => wpAny_pure ⟨.none, rfl, wpAny_pure (q h' o' z1 z2 z3)⟩)
end
/-! ### what stands at a key -/
section
variable {G : Pl} {μ : Mu} {H : Hp}
theorem find_at : ∀ {xs : List PV} {vs : List V} {ys : List Ent} {k : PV} {nk : NestedKey}, keysT xs = some (ys.map (·.1)) → Ents vs ys → Reps G μ H xs vs → keyT k = some nk →
    match dfind k xs with
    | some x => ∃ b u v, atKey ys nk = some (b, u) ∧ RelV v u ∧ Rep G μ H x v
    | none => atKey ys nk = none
  | [], vs, ys, k, nk, h, e, r, hk => by
    rw [show vs = [] from r] at e
    rw [show ys = [] from e]; rfl
  | [x], vs, ys, k, nk, h, e, r, hk => by simp [keysT] at h
  | x :: z :: xs, vs, ys, k, nk, h, e, ⟨v, r, e1, h1, w, r', e2, h2, h3⟩, hk => by
    subst e2 e1
    obtain ⟨n', b, u, l, rfl, rfl, q1, q2⟩ := e
    rw [keysT] at h
    split at h
    · rename_i a t e3 e4
      simp only [List.map_cons, Option.some.injEq, List.cons.injEq] at h
      obtain ⟨rfl, rfl⟩ := h
      rw [dfind, peq_keyT e3 hk]
      by_cases c : a = nk
      · rw [if_pos (decide_eq_true c)]
        refine ⟨b, u, w, ?_, q1, h2⟩
        simp [atKey, List.find?_cons, c]
      · rw [if_neg (by simpa using c)]
        have e5 : atKey ((a, b, u) :: l) nk = atKey l nk := by simp [atKey, List.find?_cons, c]
        rw [e5]
        exact find_at (xs := xs) e4 q2 h3 hk
    · cases h
theorem ents_len : ∀ {vs : List V} {ys : List Ent}, Ents vs ys → vs.length = 2 * ys.length
  | [], ys, e => by rw [show ys = [] from e]; rfl
  | [_], ys, e => e.elim
  | k :: v :: r, ys, h => by
    obtain ⟨nk, b, u, l, rfl, _, _, q⟩ := h
    have := ents_len q
    simp only [List.length_cons]; omega
/-- a store -/
theorem put_at : ∀ {xs : List PV} {vs : List V} {ys : List Ent} {k x : PV} {nk : NestedKey} {b : Addr} {v : V} {u : Value}, keysT xs = some (ys.map (·.1)) → (ys.map (·.1)).Nodup → Ents vs ys → Reps G μ H xs vs → keyT k = some nk → Rep G μ H k (.ref b) → Rep G μ H x v → RelV v u →
    ∃ ws, keysT (dput k x xs) = some ((storedH ys nk b u).map (·.1)) ∧ Ents ws (storedH ys nk b u) ∧ Reps G μ H (dput k x xs) ws
  | [], vs, ys, k, x, nk, b, v, u, h, nd, e, r, hk, rk, rx, rv => by
    rw [show vs = [] from r] at e
    rw [show ys = [] from e]
    refine ⟨[.ref b, v], ?_, ?_, ?_⟩
    · simp [dput, keysT, hk, storedH, atKey]
    · exact ⟨nk, b, u, [], rfl, rfl, rv, rfl⟩
    · exact ⟨_, _, rfl, rk, _, _, rfl, rx, rfl⟩
  | [x], vs, ys, _, _, _, _, _, _, h, nd, e, r, hk, rk, rx, rv => by simp [keysT] at h
  | y :: z :: xs, vs, ys, k, x, nk, b, v, u, h, nd, e, ⟨v1, r, e1, h1, w, r', e2, h2, h3⟩, hk, rk, rx, rv => by
    subst e2 e1
    obtain ⟨n', b', u', l, rfl, rfl, q1, q2⟩ := e
    rw [keysT] at h
    split at h
    · rename_i a t e3 e4
      simp only [List.map_cons, Option.some.injEq, List.cons.injEq] at h
      obtain ⟨rfl, rfl⟩ := h
      rw [List.map_cons, List.nodup_cons] at nd
      rw [dput, peq_keyT e3 hk]
      by_cases c : a = nk
      · subst c
        rw [if_pos (decide_eq_true rfl)]
        have es : storedH ((a, b', u') :: l) a b u = (a, b', u) :: l := by
          have e5 : atKey ((a, b', u') :: l) a = some (b', u') := by simp [atKey, List.find?_cons]
          rw [storedH_old e5, List.map_cons, map_putAt_of_not_mem l a u nd.1]
          simp [putAt]
        rw [es]
        refine ⟨.ref b' :: v :: r', ?_, ⟨a, b', u, l, rfl, rfl, rv, q2⟩, ⟨_, _, rfl, h1, _, _, rfl, rx, h3⟩⟩
        simp [keysT, e3, e4]
      · rw [if_neg (by simpa using c)]
        obtain ⟨ws, g1, g2, g3⟩ := put_at (xs := xs) e4 nd.2 q2 h3 hk rk rx rv
        have e5 : atKey ((a, b', u') :: l) nk = atKey l nk := by simp [atKey, List.find?_cons, c]
        have es : storedH ((a, b', u') :: l) nk b u = (a, b', u') :: storedH l nk b u := by
          unfold storedH
          rw [e5]
          by_cases q : (atKey l nk).isSome = true
          · rw [if_pos q, if_pos q, List.map_cons]
            simp [putAt, c]
          · rw [if_neg q, if_neg q]; rfl
        rw [es]
        refine ⟨.ref b' :: w :: ws, ?_, ⟨a, b', u', _, rfl, rfl, q1, g2⟩, ⟨_, _, rfl, h1, _, _, rfl, h2, g3⟩⟩
        simp [keysT, e3, g1]
    · cases h
theorem ents_at : ∀ {xs : List PV} {vs : List V} {ys : List Ent}, Ents vs ys → Reps G μ H xs vs → keysT xs = some (ys.map (·.1)) → ∀ (i : Nat) (k : PV), (dkeys xs)[i]? = some k → ∃ nk b u, ys[i]? = some (nk, b, u) ∧ keyT k = some nk ∧ Rep G μ H k (.ref b)
  | [], vs, ys, e, r, h, i, k, hi => by simp [dkeys] at hi
  | [x], vs, ys, e, r, h, i, k, hi => by simp [keysT] at h
  | y :: z :: xs, vs, ys, e, ⟨v1, r, e1, h1, w, r', e2, h2, h3⟩, h, i, k, hi => by
    subst e2 e1
    obtain ⟨n', b', u', l, rfl, rfl, q1, q2⟩ := e
    rw [keysT] at h
    split at h
    · rename_i a t e3 e4
      simp only [List.map_cons, Option.some.injEq, List.cons.injEq] at h
      obtain ⟨rfl, rfl⟩ := h
      rw [dkeys] at hi
      cases i with
      | zero =>
        have : y = k := by simpa using hi
        subst this
        exact ⟨a, b', u', rfl, e3, h1⟩
      | succ i =>
        obtain ⟨nk, b, u, g1, g2, g3⟩ := ents_at q2 h3 e4 i k (by simpa using hi)
        exact ⟨nk, b, u, by simpa using g1, g2, g3⟩
    · cases h
theorem dkeys_len : ∀ {xs : List PV} {l : List NestedKey}, keysT xs = some l → (dkeys xs).length = l.length
  | [], l, h => by rw [keysT] at h; cases h; rfl
  | [_], l, h => by simp [keysT] at h
  | y :: z :: xs, l, h => by
    rw [keysT] at h
    split at h
    · rename_i a t e3 e4
      cases h
      rw [dkeys, List.length_cons, List.length_cons, dkeys_len e4]
    · cases h
end
end Ev
namespace Ev
open PySem PySem.Spec PyProof.Rows L2
/-- a number or a text as the layer's key -/
def leafK : PV → Option L2.Key
  | .int i => some (.inl i)
  | .str z => some (.inr ⟨z.toArray⟩)
  | _ => none
theorem leafK_of {x : PV} (h : leafB x = true) : ∃ k, leafK x = some k := by cases x <;> first | exact ⟨_, rfl⟩ | cases h
theorem leafK_peq {x y : PV} {a b : L2.Key} (hx : leafK x = some a) (hy : leafK y = some b) : peq x y = decide (a = b) := by
  cases x <;> cases hx <;> cases y <;> cases hy
  · rename_i i j
    simp only [peq]
    by_cases h : i = j
    · subst h; simp
    · have : ¬ ((Sum.inl i : L2.Key) = Sum.inl j) := fun z => h (Sum.inl.inj z)
      rw [decide_eq_false this]; simpa using h
  · rename_i i z
    have : ¬ ((Sum.inl i : L2.Key) = Sum.inr ⟨z.toArray⟩) := fun e => nomatch e
    rw [decide_eq_false this]; rfl
  · rename_i z i
    have : ¬ ((Sum.inr ⟨z.toArray⟩ : L2.Key) = Sum.inl i) := fun e => nomatch e
    rw [decide_eq_false this]; rfl
  · rename_i z w
    simp only [peq]
    by_cases h : z = w
    · subst h; simp
    · have : ¬ ((Sum.inr ⟨z.toArray⟩ : L2.Key) = Sum.inr ⟨w.toArray⟩) := fun e => h (SX.S_inj (Sum.inr.inj e))
      rw [decide_eq_false this]; simpa using h
section
variable {G : Pl} {μ : Mu} {H : Hp}
theorem leaf_rep {x : PV} {v : V} {k : L2.Key} (h : leafK x = some k) (r : Rep G μ H x v) : v = kV k := by
  cases x <;> cases h <;> exact r
theorem leaf_rep' {x : PV} {k : L2.Key} (h : leafB x = true) (r : Rep G μ H x (kV k)) : leafK x = some k := by
  obtain ⟨j, e⟩ := leafK_of h
  have := leaf_rep e r
  rw [e, kV_inj this]
/-- what stands at a number or a text -/
theorem leaf_find : ∀ {kvs : List (L2.Key × V)} {xs : List PV} {k : PV} {kk : L2.Key}, leafsB xs = true → Reps G μ H xs (flatK kvs) → leafK k = some kk →
    match dfind k xs with
    | some x => ∃ w, valV kvs kk = some w ∧ Rep G μ H x w
    | none => valV kvs kk = none
  | [], xs, k, kk, hl, r, hk => by
    have : xs = [] := List.length_eq_zero_iff.mp (by rw [r.length]; rfl)
    subst this
    rfl
  | (k0, w) :: kvs, xs, k, kk, hl, r, hk => by
    have e : flatK ((k0, w) :: kvs) = kV k0 :: w :: flatK kvs := by simp [flatK]
    rw [e] at r
    match xs, r with
    | x :: z :: xs, ⟨v1, r1, e1, h1, w1, r2, e2, h2, h3⟩ =>
      subst e2
      simp only [List.cons.injEq] at e1
      obtain ⟨rfl, rfl, rfl⟩ := e1
      have hl' : leafB x = true ∧ leafsB xs = true := by simpa [leafsB] using hl
      have hx := leaf_rep' hl'.1 h1
      rw [dfind, leafK_peq hx hk]
      by_cases c : k0 = kk
      · rw [if_pos (decide_eq_true c)]
        exact ⟨w, valV_pos c, h2⟩
      · rw [if_neg (by simpa using c), valV_neg c]
        exact leaf_find hl'.2 h3 hk
    | [], r => cases r
    | [_], ⟨_, _, e1, _, e2⟩ =>
      rw [show _ = [] from e2] at e1
      simp at e1
/-- a dict, looked at a key -/
inductive DLook (P : Program) (w : World) (G : Pl) (μ : Mu) (H : Hp) (h : Heap) (a : Addr) (y : V) : Option PV → Prop
  | leaf {kvs : List (L2.Key × V)} {kk : L2.Key} {o : Option PV} : H a = some (.dK kvs) → y = kV kk → (match o with | some x => ∃ w, valV kvs kk = some w ∧ Rep G μ H x w | none => valV kvs kk = none) → DLook P w G μ H h a y o
  | tup {ys : List Ent} {nk : NestedKey} {b : Addr} {o : Option PV} : h.DictOfH (nestedKind P w) a ys → (a == sysModules) = false → y = .ref b → (nestedKind P w).is h nk b →
    (match o with | some x => ∃ c u v, atKey ys nk = some (c, u) ∧ RelV v u ∧ Rep G μ H x v | none => atKey ys nk = none) → DLook P w G μ H h a y o
end
section
variable {X : Cx} {pins : List (Addr × Obj)} {σ : L2.St} {H : Hp} {s : Shared} {G : Pl} {μ : Mu} {st : Sto}
theorem dlook (hK : X.K = G.K) (hw : X.w = G.w) (I : Inv X pins σ H s) (s0 : RepSt G μ H st) {x k : PV} {v y : V} {o : Option PV} (hx : Rep G μ H x v) (hk : Rep G μ H k y) (e : dAt st x k = some o) : ∃ a, v = .ref a ∧ DLook X.prog X.w G μ H s.heap a y o := by
  have tups : ∀ xs, ditems st x = some xs → (∃ nk, keyT k = some nk) → dfind k xs = o → ∃ a, v = .ref a ∧ DLook X.prog X.w G μ H s.heap a y o := fun xs e1 ⟨nk, e2⟩ e3 => by
    obtain ⟨b, rfl⟩ := key_ref e2 hk
    have key : ∃ a vs ob ys, v = .ref a ∧ H a = some (dO a ob) ∧ DictO G.w a ob ys ∧ keysT xs = some (ys.map (·.1)) ∧ Ents vs ys ∧ Reps G μ H xs vs := by
      cases x <;> first | cases e1 | skip
      · rename_i t l
        cases t <;> cases e1
        obtain ⟨a, vs, ob, ys, h1, _, h3, h4, h5, h6, h7⟩ := hx
        exact ⟨a, vs, ob, ys, h1, h3, h4, h5, h6, h7⟩
      · rename_i i
        obtain ⟨a, h1, h2, h3⟩ := hx
        obtain ⟨vs, ob, ys, q1, q2, q3, q4, q5⟩ := s0.atD i xs e1 h2 h3
        exact ⟨a, vs, ob, ys, h1, q1, q2, q3, q4, q5⟩
    obtain ⟨a, vs, ob, ys, h1, h2, h3, h4, h5, h6⟩ := key
    have f := find_at h4 h5 h6 e2
    rw [e3] at f
    exact ⟨a, h1, .tup (dict_of hK hw I h2 h3 h4 h5 h6) h3.nsys rfl (key_kind hK I e2 hk) f⟩
  by_cases hd : ∃ xs, x = .dic false xs
  · obtain ⟨xs, rfl⟩ := hd
    have e : (if leafB k then some (dfind k xs) else none) = some o := e
    split at e
    · rename_i hb
      cases e
      obtain ⟨a, vs, kvs, h1, _, h3, h4, rfl, h6⟩ := hx
      obtain ⟨kk, ek⟩ := leafK_of hb
      exact ⟨a, h1, .leaf h3 (leaf_rep ek hk) (leaf_find h4 h6 ek)⟩
    · cases e
  · have e : (match ditems st x, keyT k with
      | some xs, some _ => some (dfind k xs)
      | _, _ => none) = some o := by
      cases x <;> first | exact e | skip
      rename_i t l
      cases t
      · exact absurd ⟨l, rfl⟩ hd
      · exact e
    split at e
    · rename_i xs nk e1 e2
      cases e
      exact tups xs e1 ⟨nk, e2⟩ rfl
    · cases e
variable {A : Around} {E : Value → Shared → Prop} {a : Addr} {y : V} {u : Value}
theorem room_k (hu : A.units + 65 < cLine) : (nestedKind X.prog X.w).room A.in1 := by
  show A.units + 1 + 8 < cLine
  omega
/-- k in d, k not in d -/
theorem dl_in {o : Option PV} {Q : Value → Shared → Prop} (hu : A.units + 65 < cLine) (I : Inv X pins σ H s) (D : DLook X.prog X.w G μ H s.heap a y o) (ry : RelV y u) (h : ∀ s', Inv X pins σ H s' → Q (.bool o.isSome) s') : wpAny (model X.prog X.w) A (compareOp .In u (.ref a)) Q E s := by
  cases D with
  | @leaf kvs kk _ h1 h2 h3 =>
    subst h2
    refine d_in (by omega) I (.k h1) ry fun s' I' => ?_
    have : (valV kvs kk).isSome = o.isSome := by
      cases o with
      | none => rw [show valV kvs kk = none from h3]; rfl
      | some x => obtain ⟨w, e, _⟩ := h3; rw [e]; rfl
    rw [this]; exact h s' I'
  | @tup ys nk b _ h1 hs h2 h3 h4 =>
    subst h2
    obtain rfl : u = .ref b := ry
    refine wpAny_in_heap (room_k hu) h3 hs h1 ?_
    have : (atKey ys nk).isSome = o.isSome := by
      cases o with
      | none => rw [show atKey ys nk = none from h4]; rfl
      | some x => obtain ⟨c, w, v, e, _⟩ := h4; rw [e]; rfl
    rw [this]; exact h _ (I.tok _)
theorem dl_notIn {o : Option PV} {Q : Value → Shared → Prop} (hu : A.units + 65 < cLine) (I : Inv X pins σ H s) (D : DLook X.prog X.w G μ H s.heap a y o) (ry : RelV y u) (h : ∀ s', Inv X pins σ H s' → Q (.bool (!o.isSome)) s') : wpAny (model X.prog X.w) A (compareOp .NotIn u (.ref a)) Q E s := by
  show wpAny _ _ (do return .bool (!(← contains (.ref a) u))) Q E s
  cases D with
  | @leaf kvs kk _ h1 h2 h3 =>
    subst h2
    refine d_notIn (by omega) I (.k h1) ry fun s' I' => ?_
    have : (valV kvs kk).isSome = o.isSome := by
      cases o with
      | none => rw [show valV kvs kk = none from h3]; rfl
      | some x => obtain ⟨w, e, _⟩ := h3; rw [e]; rfl
    rw [this]; exact h s' I'
  | @tup ys nk b _ h1 hs h2 h3 h4 =>
    subst h2
    obtain rfl : u = .ref b := ry
    refine wpAny_notIn_heap (room_k hu) h3 hs h1 ?_
    have : (atKey ys nk).isSome = o.isSome := by
      cases o with
      | none => rw [show atKey ys nk = none from h4]; rfl
      | some x => obtain ⟨c, w, v, e, _⟩ := h4; rw [e]; rfl
    rw [this]; exact h _ (I.tok _)
/-- d[k] -/
theorem dl_item {x : PV} {Q : Value → Shared → Prop} (hu : A.units + 65 < cLine) (I : Inv X pins σ H s) (D : DLook X.prog X.w G μ H s.heap a y (some x)) (ry : RelV y u) (h : ∀ w w' s', Inv X pins σ H s' → Rep G μ H x w → RelV w w' → Q w' s') : wpAny (model X.prog X.w) A (getItem (.ref a) u) Q E s := by
  cases D with
  | @leaf kvs kk _ h1 h2 h3 =>
    subst h2
    obtain ⟨w, e, r⟩ := h3
    exact d_getItem (by omega) I (v := w) (by rw [← e]; exact .k h1) ry fun w' s' I' rw' => h w w' s' I' r rw'
  | @tup ys nk b _ h1 hs h2 h3 h4 =>
    subst h2
    obtain rfl : u = .ref b := ry
    obtain ⟨c, w', v, e, r1, r2⟩ := h4
    exact wpAny_getItem_heap (room_k hu) h3 h1 e (h v w' _ (I.tok _) r2 r1)
/-- d.get(k), d.get(k, x) -/
theorem dl_get1 {o : Option PV} {Q : Value → Shared → Prop} (hu : A.units + 65 < cLine) (I : Inv X pins σ H s) (D : DLook X.prog X.w G μ H s.heap a y o) (ry : RelV y u) (h : ∀ w w' s', Inv X pins σ H s' → Rep G μ H (o.getD .non) w → RelV w w' → Q w' s') :
    wpAny (model X.prog X.w) A (call (.builtin "dict.get") [.ref a, u]) Q E s := by
  cases D with
  | @leaf kvs kk _ h1 h2 h3 =>
    subst h2
    refine d_get1 (by omega) I (.k h1) ry fun w' s' I' rw' => ?_
    cases o with
    | none => rw [show valV kvs kk = none from h3] at rw'; exact h _ w' s' I' rfl rw'
    | some x => obtain ⟨w, e, r⟩ := h3; rw [e] at rw'; exact h _ w' s' I' r rw'
  | @tup ys nk b _ h1 hs h2 h3 h4 =>
    subst h2
    obtain rfl : u = .ref b := ry
    refine call_meetsIn PySem.F.slot_dict_get h1.typeIs PySem.F.entry_dict_get (PySem.F.args_dict_get_2 _ _) (meetsH_dict_get (nestedKind X.prog X.w) a b hs) ⟨room_k hu, nk, ys, h3, h1, ?_⟩
    cases o with
    | none => rw [show atKey ys nk = none from h4]; exact h .non _ _ (I.tok _) rfl rfl
    | some x => obtain ⟨c, w', v, e, r1, r2⟩ := h4; rw [e]; exact h v _ _ (I.tok _) r2 r1
theorem dl_get2 {o : Option PV} {Q : Value → Shared → Prop} {dv : PV} {d : V} {r : Value} (hu : A.units + 65 < cLine) (I : Inv X pins σ H s) (D : DLook X.prog X.w G μ H s.heap a y o) (ry : RelV y u) (hd : Rep G μ H dv d) (rd : RelV d r) (h : ∀ w w' s', Inv X pins σ H s' → Rep G μ H (o.getD dv) w → RelV w w' → Q w' s') :
    wpAny (model X.prog X.w) A (call (.builtin "dict.get") [.ref a, u, r]) Q E s := by
  cases D with
  | @leaf kvs kk _ h1 h2 h3 =>
    subst h2
    refine d_get2 (by omega) I (.k h1) ry rd fun w' s' I' rw' => ?_
    cases o with
    | none => rw [show valV kvs kk = none from h3] at rw'; exact h _ w' s' I' hd rw'
    | some x => obtain ⟨w, e, r⟩ := h3; rw [e] at rw'; exact h _ w' s' I' r rw'
  | @tup ys nk b _ h1 hs h2 h3 h4 =>
    subst h2
    obtain rfl : u = .ref b := ry
    refine call_meetsIn PySem.F.slot_dict_get h1.typeIs PySem.F.entry_dict_get (PySem.F.args_dict_get_3 _ _ _) (meetsH_dict_get_default (nestedKind X.prog X.w) a b hs r) ⟨room_k hu, nk, ys, h3, h1, ?_⟩
    cases o with
    | none => rw [show atKey ys nk = none from h4]; exact h d _ _ (I.tok _) hd rd
    | some x => obtain ⟨c, w', v, e, r1, r2⟩ := h4; rw [e]; exact h v _ _ (I.tok _) r2 r1
end
end Ev
namespace Ev
open PySem PySem.Spec PyProof.Rows L2
section
variable {X : Cx} {G : Pl}
theorem PSet.or {t t' : TSet} (h : PSet X t) (h' : PSet X t') : PSet X (fun o i v H Q => t o i v H Q ∨ t' o i v H Q) := fun pins s σ H o i v ov iv u Q I r1 r2 r3 q =>
  q.elim (h pins s σ H o i v ov iv u Q I r1 r2 r3) (h' pins s σ H o i v ov iv u Q I r1 r2 r3)
/-- d[k] = v -/
def rSetD (G : Pl) : TSet := fun o i v H Q => ∃ (a b : Addr) (ob : Obj) (xs : List PV) (ws : List V) (ys : List Ent) (k : PV) (nk : NestedKey) (μ : Mu), o = .ref a ∧ i = .ref b ∧ H a = some (dO a ob) ∧ DictO G.w a ob ys ∧ keysT xs = some (ys.map (·.1)) ∧ Ents ws ys ∧ Reps G μ H xs ws ∧
  keyT k = some nk ∧ Rep G μ H k (.ref b) ∧ ys.length ≤ sizeLine ∧ ∀ ob' u, RelV v u → DictO G.w a ob' (storedH ys nk b u) → Q (upd H a (dO a ob'))
theorem set_dict (hK : X.K = G.K) (hw : X.w = G.w) (hu : X.A.units + 65 < cLine) : PSet X (rSetD G) := by
  intro pins s σ H o i v ov iv u Q I ro ri rv h
  obtain ⟨a, b, ob, xs, ws, ys, k, nk, μ, rfl, rfl, h1, h2, h3, h4, h5, h6, h7, h8, q⟩ := h
  obtain rfl : ov = .ref a := ro
  obtain rfl : iv = .ref b := ri
  rw [← hw] at h2 q
  exact item_counted (room_k hu) (key_kind hK I h6 h7) (dO_at I h1) h2 (ents_kind hK I h3 h4 h5) h8 fun h' ob' e1 D' hs =>
    ⟨_, d_write I (by rw [h1]; exact True.intro) hs ⟨ob', e1⟩ (dO_ok e1), q ob' u rv D'⟩
end
end Ev

/-! EvSo: lists of plain data put in order. -/
namespace Ev
open PySem PySem.Spec PyProof.Rows L2
theorem sle_total : PySem.W.TotalLe sle := PySem.W.sortLe_total (listOrd itemOrd) false fun b => PySem.W.keyToks (toD b)
theorem ins_perm (x : PV) : ∀ r : List PV, (ins x r).Perm (x :: r)
  | [] => .refl _
  | y :: r => by
    rw [ins]
    by_cases h : sle x y = true
    · rw [if_pos h]
    · rw [if_neg h]
      exact ((ins_perm x r).cons y).trans (List.Perm.swap x y r)
theorem isort_perm : ∀ xs : List PV, (isort xs).Perm xs
  | [] => .refl _
  | x :: xs => (ins_perm x (isort xs)).trans ((isort_perm xs).cons x)
theorem ins_pw {x : PV} : ∀ {r : List PV}, r.Pairwise (fun a b => sle a b = true) → (ins x r).Pairwise (fun a b => sle a b = true)
  | [], _ => List.pairwise_singleton _ _
  | y :: r, h => by
    obtain ⟨h1, h2⟩ := List.pairwise_cons.mp h
    rw [ins]
    by_cases c : sle x y = true
    · rw [if_pos c]
      refine List.pairwise_cons.mpr ⟨fun z hz => ?_, h⟩
      rcases List.mem_cons.mp hz with e | hz
      · rw [e]; exact c
      · exact sle_total.trans x y z c (h1 z hz)
    · rw [if_neg c]
      refine List.pairwise_cons.mpr ⟨fun z hz => ?_, ins_pw h2⟩
      rcases List.mem_cons.mp ((ins_perm x r).mem_iff.mp hz) with e | hz
      · rw [e]; exact (sle_total.total y x).resolve_right c
      · exact h1 z hz
theorem isort_pw : ∀ xs : List PV, (isort xs).Pairwise (fun a b => sle a b = true)
  | [] => List.Pairwise.nil
  | x :: xs => ins_pw (isort_pw xs)
theorem ins_fil (c x : PV) : ∀ r : List PV, (ins x r).filter (PySem.W.sameRank sle c) = (x :: r).filter (PySem.W.sameRank sle c)
  | [] => rfl
  | y :: r => by
    rw [ins]
    by_cases h : sle x y = true
    · rw [if_pos h]
    · rw [if_neg h, List.filter_cons, ins_fil c x r]
      by_cases px : PySem.W.sameRank sle c x = true
      · have py : ¬ PySem.W.sameRank sle c y = true := fun py => h (by
          unfold PySem.W.sameRank at px py
          rw [Bool.and_eq_true] at px py
          exact sle_total.trans x c y px.2 py.1)
        rw [if_neg py, List.filter_cons, if_pos px, List.filter_cons, if_pos px, List.filter_cons, if_neg py]
      · rw [List.filter_cons, if_neg px, List.filter_cons, if_neg px, List.filter_cons]
theorem isort_fil (c : PV) : ∀ xs : List PV, (isort xs).filter (PySem.W.sameRank sle c) = xs.filter (PySem.W.sameRank sle c)
  | [] => rfl
  | x :: xs => by rw [isort, ins_fil, List.filter_cons, List.filter_cons, isort_fil c xs]
/-- it is the library's -/
theorem isort_eq (xs : List PV) : isort xs = xs.mergeSort sle := PySem.W.sort_unique sle_total (isort_pw xs) fun c => isort_fil c xs
theorem toDs_map : ∀ xs : List PV, toDs xs = xs.map toD
  | [] => rfl
  | x :: xs => by rw [toDs, toDs_map xs, List.map_cons]
theorem sort_ok_alike {xs : List PV} (h : sortOk xs = true) : xs.length ≤ 100000 ∧ plains 58 xs = true ∧ PySem.W.AllAlike (xs.map toD) ∧ PySem.W.Sortable (xs.map toD) := by
  unfold sortOk at h
  simp only [Bool.and_eq_true, Bool.or_eq_true, decide_eq_true_eq] at h
  obtain ⟨⟨⟨⟨h1, h2⟩, h3⟩, h4⟩, h5⟩ := h
  refine ⟨h1, h3, fun d hd e he => ?_, ?_⟩
  · obtain ⟨x, mx, rfl⟩ := List.mem_map.mp hd
    obtain ⟨y, my, rfl⟩ := List.mem_map.mp he
    exact List.all_eq_true.mp (List.all_eq_true.mp h4 x mx) y my
  · rcases h5 with h5 | h5
    · refine .inl fun d hd => ?_
      obtain ⟨x, mx, rfl⟩ := List.mem_map.mp hd
      have k := List.all_eq_true.mp h5 x mx
      match x, k with
      | .tup (y :: ys), _ => exact ⟨toD y, toDs ys, rfl⟩
    · refine .inr fun d hd => ?_
      obtain ⟨x, mx, rfl⟩ := List.mem_map.mp hd
      have k := List.all_eq_true.mp h5 x mx
      have pu : pureD x = true := by
        clear h1 h3 h4 h5 hd k
        induction xs with
        | nil => cases mx
        | cons y ys ih =>
          rw [pureDs, Bool.and_eq_true] at h2
          rcases List.mem_cons.mp mx with e | mx
          · rw [e]; exact h2.1
          · exact ih h2.2 mx
      match x, k, pu with
      | .int i, _, _ => exact ⟨fun e => (by cases e), fun ys e => (by cases e)⟩
      | .str s, _, _ => exact ⟨fun e => (by cases e), fun ys e => (by cases e)⟩
section
variable {X : Cx} {G : Pl}
theorem reps_zip {μ : Mu} {H : Hp} : ∀ {xs : List PV} {vs : List V}, Reps G μ H xs vs → ∃ bs : List (V × PV), bs.map Prod.fst = vs ∧ bs.map Prod.snd = xs ∧ ∀ b ∈ bs, Rep G μ H b.2 b.1
  | [], _, h => by
    rw [show _ = [] from h]
    exact ⟨[], rfl, rfl, fun b hb => by cases hb⟩
  | x :: xs, _, ⟨v, r, e, h1, h2⟩ => by
    obtain ⟨bs, k1, k2, k3⟩ := reps_zip h2
    refine ⟨(v, x) :: bs, by rw [e, List.map_cons, k1], by rw [List.map_cons, k2], fun b hb => ?_⟩
    rcases List.mem_cons.mp hb with e | hb
    · rw [e]; exact h1
    · exact k3 b hb
theorem zip_reps {μ : Mu} {H : Hp} : ∀ {bs : List (V × PV)}, (∀ b ∈ bs, Rep G μ H b.2 b.1) → Reps G μ H (bs.map Prod.snd) (bs.map Prod.fst)
  | [], _ => rfl
  | b :: bs, h => ⟨b.1, bs.map Prod.fst, rfl, h b (by simp), zip_reps fun c hc => h c (by simp [hc])⟩
theorem vals_each : ∀ {bs : List (V × PV)} {us : List Value}, Vals (bs.map Prod.fst) us → PySem.W.EachIs (fun u (b : V × PV) => RelV b.1 u) us bs
  | [], _, .nil => .nil
  | b :: bs, _, .cons r t => .cons r (vals_each t)
theorem each_vals : ∀ {bs : List (V × PV)} {us : List Value}, PySem.W.EachIs (fun u (b : V × PV) => RelV b.1 u) us bs → Vals (bs.map Prod.fst) us
  | _, _, .nil => .nil
  | _, _, .cons r t => .cons r (each_vals t)
theorem each_and {α β : Type} {R S : α → β → Prop} : ∀ {as : List α} {bs : List β}, PySem.W.EachIs R as bs → (∀ a b, b ∈ bs → R a b → S a b) → PySem.W.EachIs S as bs
  | _, _, .nil, _ => .nil
  | _, _, .cons r t, h => .cons (h _ _ (by simp) r) (each_and t fun a b hb => h a b (by simp [hb]))
/-- sorted(list of plain data that are alike) -/
def rSortedD (K : PySem.W.Frag) : List V → Hp → VK → Prop := fun vs H Q => ∃ (a : Addr) (bs : List (V × PV)), vs = [V.ref a] ∧ SqL K H a (bs.map Prod.fst) ∧ (∀ b ∈ bs, Dp K H b.1 (toD b.2) ∧ (toD b.2).depth ≤ 60) ∧ sortOk (bs.map Prod.snd) = true ∧
  ∀ p, H p = none → Q (.ref p) (upd H p (.lst ((bs.mergeSort (fun x y => sle x.2 y.2)).map Prod.fst)))
theorem cr_sortedD (hu : X.A.units + 65 < cLine) : CallR X (.builtin "sorted") (rSortedD X.K) := by
  intro pins s σ H vs us Q I r h
  obtain ⟨a, bs, rfl, hs, hb, hk, q⟩ := h
  obtain ⟨its, rv, hl, hz⟩ := I.list hs
  obtain ⟨u, rfl, ru⟩ := vals1 r
  obtain rfl : u = Value.ref a := ru
  obtain ⟨k1, k2, k3, k4⟩ := sort_ok_alike hk
  have e := vals_each rv
  have mm : (bs.map Prod.snd).map toD = bs.map fun b => toD b.2 := by rw [List.map_map] <;> rfl
  rw [mm] at k3 k4
  have er : PySem.W.EachIs (fun v (b : V × PV) => ∃ as, Reads s.heap v (toD b.2) as) its bs := each_and e fun v b m r => Dp.reads I (toD b.2) b.1 v (hb b m).1 r
  refine PySem.W.sorted_data (enc := fun b : V × PV => toD b.2) hl.isList e er k3 k4 ?_ (fun b m => ?_) fun out ln each => ?_
  · rw [List.length_map] at k1
    rw [sizeLine_eq]; omega
  · have := (hb b m).2
    omega
  · obtain ⟨n, hn⟩ := PyProof.Rows.sortedAll_at s.heap its out.toArray
    have hp : H (s.heap.objs.size + 1) = none := I.hok.fresh (Nat.le_succ _)
    refine ⟨.ref (s.heap.objs.size + 1), upd H (s.heap.objs.size + 1) (.lst ((bs.mergeSort (fun x y => sle x.2 y.2)).map Prod.fst)), I.laid (t' := s.toks) (fun b o e => PyProof.Rows.sortedAll_old e) (Nat.le_succ _) ⟨?_, out, n, each_vals each, hn⟩, rfl, q _ hp⟩
    rw [List.length_map, List.length_mergeSort, sizeLine_eq]
    rw [List.length_map] at k1
    omega
end
end Ev

/-! EvMn: the less, the greater of two. -/
namespace Ev
open PySem PySem.Spec PyProof.Rows L2
section
variable {prog : Program} {w : World} {A : Around} {E : Value → Shared → Prop} {s : Shared} {a b : Value} {x y : PyData} {as bs : List Addr} {Q : Value → Shared → Prop}
theorem min_two_data (hh : A.handled = none) (ra : Reads s.heap a x as) (rb : Reads s.heap b y bs) (al : PySem.W.AlikeAll [x, y]) (hu : A.units + 1 + PyData.depthAll [x, y] < cLine)
    (h : ∀ h' tk, (∀ c o, s.heap.get? c = some o → h'.get? c = some o) → Q (if PySem.W.dataLt y x then b else a) { s with heap := h', toks := tk }) : wpAny (model prog w) A (call (.builtin "min") [a, b]) Q E s := by
  have nm : (toString "min" ++ toString ".loop" : String) = "min.loop" := by decide
  refine call_function_tree F.kind_min F.plain_min F.entry_min (F.args_min2 _ _) ?_
  change wpAny _ A.in1 (Builtin.Builtins.bindParams "min" ["key", "default"] 0 ⟨[], []⟩ >>= _) _ _ s
  refine wpAny_bind (wpAny_of_eq (show Builtin.Builtins.bindParams "min" ["key", "default"] 0 ⟨[], []⟩ = pure [none, none] from rfl) ?_)
  change wpAny _ A.in1 (newTuple [a, b] >>= _) _ _ s
  refine wpAny_bind (wpAny_newObj_type ?_)
  have kp : ∀ c o, s.heap.get? c = some o → (s.heap.push { cls := .type "tuple", data := .seq #[a, b] }).get? c = some o := fun c o e => Heap.get?_push_of_some _ e
  have tp : Heap.IsTuple (s.heap.push { cls := .type "tuple", data := .seq #[a, b] }) s.heap.objs.size #[a, b] := ⟨_, Heap.get?_push_size _ rfl, rfl, 0, rfl⟩
  obtain ⟨cs, rs⟩ : ∃ cs, ReadsAll (s.heap.push { cls := .type "tuple", data := .seq #[a, b] }) [a, b] [x, y] cs := ⟨_, ReadsAll.cons (PySem.W.reads_keeps kp ra) (ReadsAll.cons (PySem.W.reads_keeps kp rb) ReadsAll.nil)⟩
  refine wpAny_bind (wpAny_mono (PySem.W.iter_tupleW (s := { s with heap := s.heap.push { cls := .type "tuple", data := .seq #[a, b] } }) (A := A.in1) (E := E) (Q := fun it s2 => ∃ I fp wr G n P St H bt, it = .ref I ∧ WalksS prog w A.in1 I fp wr G n P St ∧ St 0 s2 ∧ (∀ b ∈ fp, b < s2.heap.objs.size) ∧ 0 < n ∧
      (∀ b o, H.get? b = some o → b ∉ wr) ∧ (∀ b o, H.get? b = some o → s2.heap.get? b = some o) ∧ PySem.CmpIn prog w A.in1 .Lt H P bt ∧ ∀ v s', P (argBest bt (n - 1)) v → Moved wr G s2 s' → Q v s') hh tp fun s2 e W st hfp hw hk => ?_) (fun it s2 h2 => ?_) fun _ _ e => e)
  · refine ⟨_, _, _, _, _, _, _, s.heap.push { cls := .type "tuple", data := .seq #[a, b] }, _, rfl, W, st, hfp, (show 0 < 2 by decide), hw, hk, PySem.W.cmpIn_lt (s := { s with heap := s.heap.push { cls := .type "tuple", data := .seq #[a, b] } }) (A := A.in1) rs al (by show A.units + 1 + _ < _; exact hu), fun v s' hP m => ?_⟩
    obtain ⟨h', tk, rfl, hk'⟩ := PySem.W.moved_old e rfl m
    have hP : #[a, b][argBest (fun i j => PySem.W.dataLt ([x, y].getD i .none) ([x, y].getD j .none)) 1]? = some v := hP
    have key : v = if PySem.W.dataLt y x then b else a := by
      by_cases c : PySem.W.dataLt y x = true
      · have e1 : argBest (fun i j => PySem.W.dataLt ([x, y].getD i .none) ([x, y].getD j .none)) 1 = 1 := by simp [argBest, c]
        rw [e1] at hP
        rw [if_pos c]
        simpa using hP.symm
      · have e1 : argBest (fun i j => PySem.W.dataLt ([x, y].getD i .none) ([x, y].getD j .none)) 1 = 0 := by simp [argBest, c]
        rw [e1] at hP
        rw [if_neg c]
        simpa using hP.symm
    rw [key]
    exact h h' tk fun c o e => hk' c o (kp c o e)
  · obtain ⟨I, fp, wr, G, n, P, St, H, bt, rfl, W, hst, hfp, hn, hw, hkeep, hcmp, hQ⟩ := h2
    refine wpAny_bind (wpAny_newObj_type ?_)
    have fresh : s2.heap.objs.size ∉ fp := fun hm => Nat.lt_irrefl _ (hfp _ hm)
    rw [nm]
    refine wpAny_pure ⟨plainId_quiet F.plain_min_loop _, PySem.codeAny_min_loop_firstH W H hw bt hcmp s2.heap.objs.size fresh (PySem.fresh_in hkeep) _ hn (fun b o e => Heap.get?_push_of_some _ (hkeep b o e)) (W.frame 0 s2 _ s2.toks hst (Nat.le_refl _) fun b _ o e => Heap.get?_push_of_some _ e) (Heap.get?_push_size _ rfl) fun v s' hP hm => ?_⟩
    exact hQ v s' hP (Moved.drop_new (tk := s2.toks) hm (Nat.le_refl _))
theorem max_two_data (hh : A.handled = none) (ra : Reads s.heap a x as) (rb : Reads s.heap b y bs) (al : PySem.W.AlikeAll [x, y]) (hu : A.units + 1 + PyData.depthAll [x, y] < cLine)
    (h : ∀ h' tk, (∀ c o, s.heap.get? c = some o → h'.get? c = some o) → Q (if PySem.W.dataLt x y then b else a) { s with heap := h', toks := tk }) : wpAny (model prog w) A (call (.builtin "max") [a, b]) Q E s := by
  have nm : (toString "max" ++ toString ".loop" : String) = "max.loop" := by decide
  refine call_function_tree F.kind_max F.plain_max F.entry_max (F.args_max2 _ _) ?_
  change wpAny _ A.in1 (Builtin.Builtins.bindParams "max" ["key", "default"] 0 ⟨[], []⟩ >>= _) _ _ s
  refine wpAny_bind (wpAny_of_eq (show Builtin.Builtins.bindParams "max" ["key", "default"] 0 ⟨[], []⟩ = pure [none, none] from rfl) ?_)
  change wpAny _ A.in1 (newTuple [a, b] >>= _) _ _ s
  refine wpAny_bind (wpAny_newObj_type ?_)
  have kp : ∀ c o, s.heap.get? c = some o → (s.heap.push { cls := .type "tuple", data := .seq #[a, b] }).get? c = some o := fun c o e => Heap.get?_push_of_some _ e
  have tp : Heap.IsTuple (s.heap.push { cls := .type "tuple", data := .seq #[a, b] }) s.heap.objs.size #[a, b] := ⟨_, Heap.get?_push_size _ rfl, rfl, 0, rfl⟩
  obtain ⟨cs, rs⟩ : ∃ cs, ReadsAll (s.heap.push { cls := .type "tuple", data := .seq #[a, b] }) [a, b] [x, y] cs := ⟨_, ReadsAll.cons (PySem.W.reads_keeps kp ra) (ReadsAll.cons (PySem.W.reads_keeps kp rb) ReadsAll.nil)⟩
  refine wpAny_bind (wpAny_mono (PySem.W.iter_tupleW (s := { s with heap := s.heap.push { cls := .type "tuple", data := .seq #[a, b] } }) (A := A.in1) (E := E) (Q := fun it s2 => ∃ I fp wr G n P St H bt, it = .ref I ∧ WalksS prog w A.in1 I fp wr G n P St ∧ St 0 s2 ∧ (∀ b ∈ fp, b < s2.heap.objs.size) ∧ 0 < n ∧
      (∀ b o, H.get? b = some o → b ∉ wr) ∧ (∀ b o, H.get? b = some o → s2.heap.get? b = some o) ∧ PySem.CmpIn prog w A.in1 .Gt H P bt ∧ ∀ v s', P (argBest bt (n - 1)) v → Moved wr G s2 s' → Q v s') hh tp fun s2 e W st hfp hw hk => ?_) (fun it s2 h2 => ?_) fun _ _ e => e)
  · refine ⟨_, _, _, _, _, _, _, s.heap.push { cls := .type "tuple", data := .seq #[a, b] }, _, rfl, W, st, hfp, (show 0 < 2 by decide), hw, hk, PySem.W.cmpIn_gt (s := { s with heap := s.heap.push { cls := .type "tuple", data := .seq #[a, b] } }) (A := A.in1) rs al (by show A.units + 1 + _ < _; exact hu), fun v s' hP m => ?_⟩
    obtain ⟨h', tk, rfl, hk'⟩ := PySem.W.moved_old e rfl m
    have hP : #[a, b][argBest (fun i j => PySem.W.dataLt ([x, y].getD j .none) ([x, y].getD i .none)) 1]? = some v := hP
    have key : v = if PySem.W.dataLt x y then b else a := by
      by_cases c : PySem.W.dataLt x y = true
      · have e1 : argBest (fun i j => PySem.W.dataLt ([x, y].getD j .none) ([x, y].getD i .none)) 1 = 1 := by simp [argBest, c]
        rw [e1] at hP
        rw [if_pos c]
        simpa using hP.symm
      · have e1 : argBest (fun i j => PySem.W.dataLt ([x, y].getD j .none) ([x, y].getD i .none)) 1 = 0 := by simp [argBest, c]
        rw [e1] at hP
        rw [if_neg c]
        simpa using hP.symm
    rw [key]
    exact h h' tk fun c o e => hk' c o (kp c o e)
  · obtain ⟨I, fp, wr, G, n, P, St, H, bt, rfl, W, hst, hfp, hn, hw, hkeep, hcmp, hQ⟩ := h2
    refine wpAny_bind (wpAny_newObj_type ?_)
    have fresh : s2.heap.objs.size ∉ fp := fun hm => Nat.lt_irrefl _ (hfp _ hm)
    rw [nm]
    refine wpAny_pure ⟨plainId_quiet F.plain_max_loop _, PySem.codeAny_max_loop_firstH W H hw bt hcmp s2.heap.objs.size fresh (PySem.fresh_in hkeep) _ hn (fun b o e => Heap.get?_push_of_some _ (hkeep b o e)) (W.frame 0 s2 _ s2.toks hst (Nat.le_refl _) fun b _ o e => Heap.get?_push_of_some _ e) (Heap.get?_push_size _ rfl) fun v s' hP hm => ?_⟩
    exact hQ v s' hP (Moved.drop_new (tk := s2.toks) hm (Nat.le_refl _))
end
section
variable {X : Cx}
theorem alike_two {x y : PV} (h : sortOk [x, y] = true) : PySem.W.AlikeAll [toD x, toD y] ∧ plain 58 x = true ∧ plain 58 y = true := by
  obtain ⟨_, h2, h3, h4⟩ := sort_ok_alike h
  rw [plains, plains, plains, Bool.and_true, Bool.and_eq_true] at h2
  refine ⟨⟨h3, ?_⟩, h2⟩
  rcases h4 with h4 | h4
  · intro d hd e
    obtain ⟨a, r, k⟩ := h4 d hd
    rw [k] at e; cases e
  · exact fun d hd => (h4 d hd).1
/-- the less (the greater) of two plain data that are alike -/
def rLess (K : PySem.W.Frag) (big : Bool) : List V → Hp → VK → Prop := fun vs H Q => ∃ (u v : V) (x y : PV), vs = [u, v] ∧ Dp K H u (toD x) ∧ Dp K H v (toD y) ∧ sortOk [x, y] = true ∧ Q (if (if big then PySem.W.dataLt (toD x) (toD y) else PySem.W.dataLt (toD y) (toD x)) then v else u) H
theorem two_room {x y : PV} (h : sortOk [x, y] = true) {u : Nat} (hu : u + 65 < cLine) : u + 1 + PyData.depthAll [toD x, toD y] < cLine := by
  obtain ⟨_, h1, h2⟩ := alike_two h
  have k1 := (plain_lay (d := 58) x h1).2
  have k2 := (plain_lay (d := 58) y h2).2
  simp only [PyData.depthAll]
  omega
theorem cr_min2D (hc : X.calm = true) (hu : X.A.units + 65 < cLine) : CallR X (.builtin "min") (rLess X.K false) := by
  intro pins s σ H vs us Q I r h
  obtain ⟨u, v, x, y, rfl, h1, h2, hk, q⟩ := h
  obtain ⟨a, b, rfl, r1, r2⟩ := vals2 r
  obtain ⟨as, ra⟩ := Dp.reads I _ u a h1 r1
  obtain ⟨bs, rb⟩ := Dp.reads I _ v b h2 r2
  refine min_two_data (I.ok.hd hc) ra rb (alike_two hk).1 (two_room hk hu) fun h' tk k => ⟨_, H, I.kept k, ?_, q⟩
  by_cases c : PySem.W.dataLt (toD y) (toD x) = true
  · simp only [Bool.false_eq_true, if_false, c, if_true]; exact r2
  · simp only [Bool.false_eq_true, if_false, c]; exact r1
theorem cr_max2D (hc : X.calm = true) (hu : X.A.units + 65 < cLine) : CallR X (.builtin "max") (rLess X.K true) := by
  intro pins s σ H vs us Q I r h
  obtain ⟨u, v, x, y, rfl, h1, h2, hk, q⟩ := h
  obtain ⟨a, b, rfl, r1, r2⟩ := vals2 r
  obtain ⟨as, ra⟩ := Dp.reads I _ u a h1 r1
  obtain ⟨bs, rb⟩ := Dp.reads I _ v b h2 r2
  refine max_two_data (I.ok.hd hc) ra rb (alike_two hk).1 (two_room hk hu) fun h' tk k => ⟨_, H, I.kept k, ?_, q⟩
  by_cases c : PySem.W.dataLt (toD x) (toD y) = true
  · simp only [if_true, c]; exact r2
  · simp only [if_true, c, if_false]; exact r1
end
end Ev

/-! EvMm: the least, the greatest of a list's, a tuple's items, of a dict's keys; a dict's keys in order. -/
namespace Ev
open PySem PySem.Spec PyProof.Rows L2
section
variable {prog : Program} {w : World} {A : Around} {E : Value → Shared → Prop} {s : Shared} {d : Addr} {es : Array DictEntry} {ep : Nat}
/-- the keys of a dict, collected -/
theorem collectK {Q : List Value → Shared → Prop} (hh : A.handled = none) (lo : (d == sysModules) = false) (hm : s.heap.DictRaw d es ep) (hn : es.size ≤ sizeLine)
    (h : ∀ (h' : Heap) (tk : Nat) (vs : List Value), (∀ b o, s.heap.get? b = some o → h'.get? b = some o) → s.heap.objs.size < h'.objs.size → vs = es.toList.map (·.key) → Q vs { s with heap := h', toks := tk }) : wpAny (model prog w) A (collect (.ref d)) Q E s := by
  have hlt := hm.lt_size
  have S1 : (s.heap.push { cls := .type "list", data := .seq ([] : List Value).toArray }).get? s.heap.objs.size = some { cls := .type "list", data := .seq #[] } := Heap.get?_push_size _ rfl
  have fin : ∀ (h' : Heap) (tk : Nat) (acc : Array Value) (c : Nat), (∀ b o, s.heap.get? b = some o → h'.get? b = some o) → h'.get? s.heap.objs.size = some { cls := .type "list", dict := none, data := .seq acc c, slots := #[] } → ItemsOf (fun i v => ∃ hi : i < es.size, v = es[i].key) acc es.size →
      wpAny (model prog w) A (load s.heap.objs.size >>= fun o => match o.data with | .seq xs _ => pure xs.toList | _ => unsupported "internal:collect") Q E { s with heap := h', toks := tk } := fun h' tk acc c k e it => by
    refine wpAny_bind (wpAny_load e (wpAny_pure (h h' tk acc.toList k (Heap.lt_size e) ?_)))
    apply List.ext_getElem?
    intro i
    by_cases hi : i < es.size
    · have hi2 : i < acc.size := by rw [it.1]; exact hi
      obtain ⟨hj, e2⟩ := it.2 i acc[i] (Array.getElem?_eq_getElem hi2)
      rw [Array.getElem?_toList, Array.getElem?_eq_getElem hi2, List.getElem?_map, Array.getElem?_toList, Array.getElem?_eq_getElem hi, Option.map_some, e2]
    · rw [List.getElem?_eq_none (by rw [Array.length_toList, it.1]; omega), List.getElem?_eq_none (by rw [List.length_map, Array.length_toList]; omega)]
  unfold collect
  refine wpAny_bind (wpAny_runValue (codeAny_builtin entry_proto_collect' ?_)); rw [Around.under_plainId F.plain_proto_collect _]
  show wpAny _ A.in1 (newList [] >>= fun l => again (.builtin "list.__iadd__" ⟨[l, .ref d], []⟩)) _ _ s
  refine wpAny_bind (wpAny_newObj_type (wpAny_pure ⟨plainId_quiet F.plain_list_iadd _, codeAny_builtin entry_list_iadd' ?_⟩))
  rw [Around.under_plainId F.plain_list_iadd _]
  show wpAny _ A.in1 (Builtin.List.listExtendWith (.ref s.heap.objs.size) (.ref d) (.ref s.heap.objs.size)) _ _ _
  have run := PySem.W.kdl_extend (prog := prog) (w := w) (A := A) (s := { s with heap := s.heap.push { cls := .type "list", data := .seq ([] : List Value).toArray } })
    (R := fun (q : Result) (s' : Shared) => ∃ (h' : Heap) (tk : Nat) (acc : Array Value) (c : Nat), q = .ok (.ret (.ref s.heap.objs.size)) ∧ s' = { s with heap := h', toks := tk } ∧ (∀ b o, s.heap.get? b = some o → h'.get? b = some o) ∧
      h'.get? s.heap.objs.size = some { cls := .type "list", dict := none, data := .seq acc c, slots := #[] } ∧ ItemsOf (fun i v => ∃ hi : i < es.size, v = es[i].key) acc es.size)
    (KdlSrc.rawDict (es := es) (ep := ep) lo) hh (hm.push _) s.heap.objs.size (Nat.ne_of_gt hlt) (Nat.ne_of_gt hlt) (.ref s.heap.objs.size) 0 S1
    (fun h' tk acc c k e it => ⟨h', tk, acc, c, rfl, rfl, fun b o q => k b o (Nat.ne_of_lt (Heap.lt_size q)) (Heap.get?_push_of_some _ q), e, it⟩) hn
  refine wpAny_mono run (fun f s' x => ?_) fun e s' x => ?_
  · cases f with
    | done f =>
      obtain ⟨h', tk, acc, c, e, rfl, k, e2, it⟩ := x
      cases e
      exact fin h' tk acc c k e2 it
    | again c₁ =>
      refine ⟨x.1, codeAny_mono x.2 fun q s2 y => ?_⟩
      obtain ⟨h', tk, acc, c, rfl, rfl, k, e2, it⟩ := y
      exact fin h' tk acc c k e2 it
  · obtain ⟨_, _, _, _, z, _⟩ := x
    cases z
/-- sorted(d) up to the sort -/
theorem sortedK {Q : Value → Shared → Prop} (hh : A.handled = none) (lo : (d == sysModules) = false) (hm : s.heap.DictRaw d es ep) (hn : es.size ≤ sizeLine)
    (h : ∀ (h' : Heap) (tk : Nat), (∀ b o, s.heap.get? b = some o → h'.get? b = some o) → s.heap.objs.size < h'.objs.size →
      wpAny (model prog w) A.in1 (call (.builtin "list.sort") [.ref h'.objs.size]) (fun _ s' => Q (.ref h'.objs.size) s') E { s with heap := h'.push (seqObj "list" (es.toList.map (·.key)).toArray 0), toks := tk }) :
    wpAny (model prog w) A (call (.builtin "sorted") [.ref d]) Q E s := by
  refine Calls.call_function_entry kind_sorted plain_sorted entry_sorted (args_sorted1 _) ?_; unfold Builtin.«sorted»
  refine wpAny_bind (m := checkCount "sorted" 1 1 _) (wpAny_pure (wpAny_bind (collectK (A := A.in1) hh lo hm hn fun h' tk vs k lt e => ?_)))
  subst e
  refine wpAny_bind (wpAny_newList ?_ (by rw [List.length_map, Array.length_toList]; exact hn))
  exact wpAny_bind (wpAny_holding (wpAny_mono (h h' tk k lt) (fun _ s' x => wpAny_pure ⟨_, rfl, x⟩) fun _ _ e => e))
end
end Ev
namespace Ev
open PySem PySem.Spec PyProof.Rows L2
section
variable {X : Cx} {pins : List (Addr × Obj)} {σ : L2.St} {H : Hp} {s : Shared} {G : Pl} {μ : Mu}
mutual
/-- a key, read as data: it names no list -/
theorem key_reads (hK : X.K = G.K) (I : Inv X pins σ H s) : ∀ {d : Nat} (x : PV) {k : NestedKey} {v : V} {u : Value}, keyK d x = some k → Rep G μ H x v → RelV v u → Reads s.heap u (toD x) []
  | d, .non, k, v, u, h, r, q => by cases (show v = .non from r); cases q; exact .none
  | d, .bl b, k, v, u, h, r, q => by cases (show v = .bl b from r); cases q; exact .bool b
  | d, .int i, k, v, u, h, r, q => by cases (show v = .int i from r); obtain ⟨t, rfl⟩ := q; exact .int i t
  | d, .str z, k, v, u, h, r, q => by cases (show v = .str ⟨z.toArray⟩ from r); obtain ⟨t, rfl⟩ := q; exact .str _ t
  | d, .tup xs, k, v, u, h, r, q => by
    obtain ⟨a, vs, rfl, h2, h3⟩ := r
    obtain rfl : u = .ref a := q
    rcases keyK_inv h with ⟨z, _⟩ | ⟨_, z, _⟩ | ⟨_, z, _⟩ | ⟨_, z, _⟩ | ⟨xs', d', l, z, rfl, e1, rfl⟩ <;> cases z
    obtain ⟨its, r2, ⟨o, ho, hc, n, hd⟩, _⟩ := I.tuple (hK ▸ h2)
    exact .tuple ho hc hd (keys_reads hK I xs e1 h3 r2)
  | d, .pl _, k, v, u, h, r, q => by simp [keyK] at h
  | d, .scr _, k, v, u, h, r, q => by simp [keyK] at h
  | d, .ml _, k, v, u, h, r, q => by simp [keyK] at h
  | d, .fn _, k, v, u, h, r, q => by simp [keyK] at h
  | d, .exn, k, v, u, h, r, q => by simp [keyK] at h
  | d, .dic _ _, k, v, u, h, r, q => by simp [keyK] at h
  | d, .md _, k, v, u, h, r, q => by simp [keyK] at h
theorem keys_reads (hK : X.K = G.K) (I : Inv X pins σ H s) : ∀ {d : Nat} (xs : List PV) {k : List NestedKey} {vs : List V} {us : List Value}, keysK d xs = some k → Reps G μ H xs vs → Vals vs us → ReadsAll s.heap us (toDs xs) []
  | d, [], k, vs, us, h, r, q => by
    rw [show vs = [] from r] at q
    cases q; exact .nil
  | d, x :: xs, k, vs, us, h, r, q => by
    obtain ⟨v, w, rfl, h2, h3⟩ := r
    obtain ⟨a, l, e1, e2, _⟩ := keysK_cons h
    cases q with
    | cons q1 q2 => exact .cons (as := []) (bs := []) (key_reads hK I x e1 h2 q1) (keys_reads hK I xs e2 h3 q2)
end
end
theorem plains_mem {d : Nat} : ∀ {xs : List PV}, plains d xs = true → ∀ {x : PV}, x ∈ xs → plain d x = true
  | y :: ys, h, x, m => by
    rw [plains, Bool.and_eq_true] at h
    rcases List.mem_cons.mp m with e | m
    · rw [e]; exact h.1
    · exact plains_mem h.2 m
/-- the keys' tuples -/
abbrev keyV (ys : List Ent) : List V := ys.map fun y => V.ref y.2.1
theorem keyV_rel (ys : List Ent) : Vals (keyV ys) (ys.map fun y => Value.ref y.2.1) := by
  induction ys with
  | nil => exact .nil
  | cons y ys ih => exact .cons rfl ih
theorem dkeys_reps {G : Pl} {μ : Mu} {H : Hp} : ∀ {xs : List PV} {vs : List V} {ys : List Ent}, keysT xs = some (ys.map (·.1)) → Ents vs ys → Reps G μ H xs vs → Reps G μ H (dkeys xs) (keyV ys) ∧ ∀ k ∈ dkeys xs, ∃ nk, keyT k = some nk
  | [], vs, ys, h, e, r => by
    rw [show vs = [] from r] at e
    rw [show ys = [] from e]
    exact ⟨rfl, fun k hk => by cases hk⟩
  | [_], vs, ys, h, e, r => by simp [keysT] at h
  | x :: z :: xs, vs, ys, h, e, r => by
    obtain ⟨v, r, e1, h1, w, r', e2, h2, h3⟩ := r
    subst e2 e1
    obtain ⟨n', b, u, l, rfl, rfl, q1, q2⟩ := e
    rw [keysT] at h
    split at h
    · rename_i a t e3 e4
      simp only [List.map_cons, Option.some.injEq, List.cons.injEq] at h
      obtain ⟨rfl, rfl⟩ := h
      obtain ⟨g1, g2⟩ := dkeys_reps (xs := xs) e4 q2 h3
      refine ⟨⟨_, _, rfl, h1, g1⟩, fun k hk => ?_⟩
      rcases List.mem_cons.mp hk with rfl | hk
      · exact ⟨_, e3⟩
      · exact g2 k hk
    · cases h
theorem ent_keys {w : World} {es : Array DictEntry} {ys : List Ent} (h : es.toList = ys.map (entN w)) : es.toList.map (·.key) = ys.map fun y => Value.ref y.2.1 := by
  rw [h, List.map_map]; rfl
section
variable {X : Cx} {G : Pl}
/-- sorted(d), the keys alike -/
def rSortK (G : Pl) : List V → Hp → VK → Prop := fun vs H Q => ∃ (a : Addr) (o : Obj) (xs : List PV) (ws : List V) (ys : List Ent) (μ : Mu), vs = [V.ref a] ∧ H a = some (dO a o) ∧ DictO G.w a o ys ∧ keysT xs = some (ys.map (·.1)) ∧ Ents ws ys ∧ Reps G μ H xs ws ∧ sortOk (dkeys xs) = true ∧
  ∀ p out, H p = none → Reps G μ H (isort (dkeys xs)) out → Q (.ref p) (upd H p (.lst out))
theorem cr_sortK (hK : X.K = G.K) (hc : X.calm = true) (hu : X.A.units + 65 < cLine) : CallR X (.builtin "sorted") (rSortK G) := by
  intro pins s σ H vs us Q I r h
  obtain ⟨a, o, xs, ws, ys, μ, rfl, ha, D, hk, he, hr, hs, q⟩ := h
  obtain ⟨u, rfl, ru⟩ := vals1 r
  obtain rfl : u = Value.ref a := ru
  obtain ⟨es, hd, hes⟩ := D.dat
  generalize hep : ys.length = ep at hd
  obtain ⟨k1, k2, k3, k4⟩ := sort_ok_alike hs
  obtain ⟨rk, kk⟩ := dkeys_reps hk he hr
  have hlen : ys.length = (dkeys xs).length := by rw [rk.length]; simp [keyV]
  have hsz : es.size = ys.length := by rw [← Array.length_toList, hes, List.length_map]
  refine sortedK (I.ok.hd hc) D.nsys ⟨o, dO_at I ha, D.ex, hd⟩ (by rw [hsz, hlen, sizeLine_eq]; omega) fun h' tk k lt => ?_
  rw [ent_keys hes]
  generalize hv : ys.map (fun y => Value.ref y.2.1) = vs
  have rv : Vals (keyV ys) vs := by rw [← hv]; exact keyV_rel ys
  obtain ⟨bs, b1, b2, b3⟩ := reps_zip rk
  rw [← b1] at rv
  have e := vals_each rv
  have mm : (bs.map Prod.snd).map toD = bs.map fun b => toD b.2 := by rw [List.map_map] <;> rfl
  rw [← b2, mm] at k3 k4
  have km : ∀ b ∈ bs, ∃ nk, keyT b.2 = some nk := fun b m => kk b.2 (by rw [← b2]; exact List.mem_map.mpr ⟨b, m, rfl⟩)
  have er : PySem.W.EachIs (fun v (b : V × PV) => ∃ as, Reads (h'.push (seqObj "list" vs.toArray 0)) v (toD b.2) as ∧ h'.objs.size ∉ as) vs bs := each_and e fun v b m r => by
    obtain ⟨nk, en⟩ := km b m
    exact ⟨[], PySem.W.reads_keeps (fun c ob ec => Heap.get?_push_of_some _ (k c ob ec)) (key_reads hK I b.2 (keyT_tup en).2 (b3 b m) r), by simp⟩
  have hoL : (h'.push (seqObj "list" vs.toArray 0)).get? h'.objs.size = some (seqObj "list" vs.toArray 0) := Heap.get?_push_size _ rfl
  refine PySem.W.list_sort_data (s := { s with heap := h'.push (seqObj "list" vs.toArray 0), toks := tk }) (enc := fun b : V × PV => toD b.2) hoL e er k3 k4 ?_ (fun b m => ?_) fun out ol eo => ?_
  · have : bs.length = (dkeys xs).length := by rw [← b2, List.length_map]
    rw [sizeLine_eq]; omega
  · obtain ⟨nk, en⟩ := km b m
    have pl : plain 58 b.2 = true := plains_mem k2 (by rw [← b2]; exact List.mem_map.mpr ⟨b, m, rfl⟩)
    have := (plain_lay b.2 pl).2
    have h3 : X.A.in1.units ≤ X.A.units + 2 := by show X.A.units + 1 ≤ _; omega
    omega
  · obtain ⟨c, hcc⟩ := sortedHeap_at (vs := vs) (out := out.toArray) hoL
    have hp : H h'.objs.size = none := I.hok.fresh (Nat.le_of_lt lt)
    have rp : Reps G μ H (isort (dkeys xs)) ((bs.mergeSort (fun x y => sle x.2 y.2)).map Prod.fst) := by
      rw [isort_eq, ← b2, ← PySem.W.sort_maps (r := fun x y : V × PV => sle x.2 y.2) Prod.snd (fun _ _ _ _ => rfl)]
      exact zip_reps fun b m => b3 b ((List.mergeSort_perm bs _).mem_iff.mp m)
    have kp : ∀ b ob, s.heap.get? b = some ob → (sortedHeap (h'.push (seqObj "list" vs.toArray 0)) h'.objs.size vs out.toArray).get? b = some ob := fun b ob eb => by
      have q1 := k b ob eb
      have hlt := Heap.lt_size q1
      rw [sortedHeap_old (Nat.ne_of_lt hlt) (by rw [size_push']; exact Nat.lt_succ_of_lt hlt)]
      exact Heap.get?_push_of_some _ q1
    refine ⟨.ref h'.objs.size, upd H h'.objs.size (.lst ((bs.mergeSort (fun x y => sle x.2 y.2)).map Prod.fst)), I.laid (t' := tk) kp (Nat.le_of_lt lt) ⟨?_, out, c, each_vals eo, hcc⟩, rfl, q _ _ hp rp⟩
    have : bs.length = (dkeys xs).length := by rw [← b2, List.length_map]
    rw [List.length_map, List.length_mergeSort, sizeLine_eq]
    omega
end
end Ev
namespace Ev
open PySem PySem.Spec PyProof.Rows L2
theorem leastV_fold : ∀ (x : PV) (r : List PV), leastV x r = r.foldl (fun a y => if PySem.W.dataLt (toD y) (toD a) then y else a) x
  | x, [] => rfl
  | x, y :: r => by rw [leastV, List.foldl_cons]; exact leastV_fold _ r
theorem greatestV_fold : ∀ (x : PV) (r : List PV), greatestV x r = r.foldl (fun a y => if PySem.W.dataLt (toD a) (toD y) then y else a) x
  | x, [] => rfl
  | x, y :: r => by rw [greatestV, List.foldl_cons]; exact greatestV_fold _ r
theorem toDs_getD (xs : List PV) (i : Nat) : (toDs xs).getD i .none = toD (xs.getD i .non) := by
  rw [toDs_map]
  simp only [List.getD_eq_getElem?_getD, List.getElem?_map]
  cases xs[i]? <;> rfl
theorem pure_none {x : PV} (h : pureD x = true) : toD x ≠ .none := by cases x <;> first | (cases h; done) | simp [toD]
theorem pures_none : ∀ {xs : List PV}, pureDs xs = true → ∀ d ∈ xs.map toD, d ≠ .none
  | [], _, d, h => by cases h
  | x :: xs, p, d, h => by
    rw [pureDs, Bool.and_eq_true] at p
    rcases List.mem_cons.mp (by simpa using h : d ∈ toD x :: xs.map toD) with rfl | h
    · exact pure_none p.1
    · exact pures_none p.2 d h
theorem sortOk_pure {xs : List PV} (h : sortOk xs = true) : pureDs xs = true := by
  unfold sortOk at h
  simp only [Bool.and_eq_true] at h
  exact h.1.1.1.2
theorem sortOk_alike {xs : List PV} (h : sortOk xs = true) : PySem.W.AlikeAll (toDs xs) := by
  rw [toDs_map]
  exact ⟨(sort_ok_alike h).2.2.1, pures_none (sortOk_pure h)⟩
theorem sortOk_depth {xs : List PV} (h : sortOk xs = true) : PyData.depthAll (toDs xs) ≤ 58 := (plains_lay xs (sort_ok_alike h).2.1).2
/-- what is walked: a list, a tuple, a dict's keys -/
def WkS (G : Pl) (μ : Mu) (H : Hp) (a : Addr) (xs : List PV) (ws : List V) : Prop := Reps G μ H xs ws ∧ (SqL G.K H a ws ∨ SqT G.K H a ws ∨ ∃ (o : Obj) (ys : List Ent), H a = some (dO a o) ∧ DictO G.w a o ys ∧ ws = keyV ys)
def rBestV (G : Pl) (f : PV → List PV → PV) : List V → Hp → VK → Prop := fun vs H Q => ∃ (a : Addr) (y : PV) (r : List PV) (ws : List V) (μ : Mu), vs = [V.ref a] ∧ WkS G μ H a (y :: r) ws ∧ sortOk (y :: r) = true ∧ ∀ v, Rep G μ H (f y r) v → Q v H
section
variable {X : Cx} {G : Pl}
theorem cmp_mono {prog : Program} {w : World} {A : Around} {op : CmpOp} {H : Heap} {P P' : Nat → Value → Prop} {bt : Nat → Nat → Bool} (h : CmpIn prog w A op H P bt) (k : ∀ i v, P' i v → P i v) : CmpIn prog w A op H P' bt :=
  fun i j vi vj s Q E q1 q2 q3 q4 => h i j vi vj s Q E q1 (k _ _ q2) (k _ _ q3) q4
/-- iter of the three -/
theorem iter_wk (hK : X.K = G.K) {A : Around} (hh : A.handled = none) {pins : List (Addr × Obj)} {σ : L2.St} {H : Hp} {s : Shared} {μ : Mu} {a : Addr} {xs : List PV} {ws : List V} {E : Value → Shared → Prop} {Q : Value → Shared → Prop} (I : Inv X pins σ H s) (k : WkS G μ H a xs ws)
    (h : ∀ (its : List Value), Vals ws its → ∀ (o : Obj) (St : Nat → Shared → Prop) (fp : List Addr), WalksS X.prog X.w A s.heap.objs.size fp [s.heap.objs.size] (fun a b => b = a) its.length (fun i v => its.toArray[i]? = some v) St → St 0 { s with heap := s.heap.push o } →
      (∀ b ∈ fp, b < (s.heap.push o).objs.size) → Q (.ref s.heap.objs.size) { s with heap := s.heap.push o }) : wpAny (model X.prog X.w) A (pyIter (.ref a)) Q E s := by
  obtain ⟨hr, k | k | ⟨o, ys, ha, D, rfl⟩⟩ := k
  · obtain ⟨its, rv, pl, _⟩ := I.list (hK ▸ k)
    refine PySem.W.iter_listW hh pl.isList fun s2 e W st hfp _ _ => ?_
    subst e
    exact h its rv _ _ _ (by simpa using W) st hfp
  · obtain ⟨its, rv, pl, _⟩ := I.tuple (hK ▸ k)
    refine PySem.W.iter_tupleW hh pl fun s2 e W st hfp _ _ => ?_
    subst e
    exact h its rv _ _ _ (by simpa using W) st hfp
  · obtain ⟨es, hd, hes⟩ := D.dat
    generalize hep : ys.length = ep at hd
    have raw : s.heap.DictRaw a es ep := ⟨o, dO_at I ha, D.ex, hd⟩
    have hlt := raw.lt_size
    refine wpAny_pyIter_dict_raw D.nsys raw ?_
    have W := ((Walks.keysH (prog := X.prog) (w := X.w) (xs := ys) hh s.heap.objs.size a (Nat.ne_of_lt hlt) es ep fun i hi => by
      have e1 : es.toList[i]? = some es[i] := by rw [Array.getElem?_toList, Array.getElem?_eq_getElem hi]
      rw [hes, List.getElem?_map] at e1
      obtain ⟨y, e2, e3⟩ := Option.map_eq_some_iff.mp e1
      exact ⟨y, e2, by rw [← e3]; rfl, by rw [← e3]; rfl⟩).mono_item (P' := fun i v => (ys.map fun y => Value.ref y.2.1).toArray[i]? = some v) fun i v _ hv => by
        obtain ⟨y, e1, rfl⟩ := hv
        simp [e1]).toS
    have hsz : es.size = (ys.map fun y => Value.ref y.2.1).length := by rw [← Array.length_toList, hes, List.length_map, List.length_map]
    rw [hsz] at W
    refine h _ (keyV_rel ys) { cls := .type "dict_keyiterator", data := .fields #[.ref a, .int 0 0, .int es.size 0, .int ep 0] } _ _ W ⟨⟨_, Heap.get?_push_size _ rfl, rfl, ?_⟩, raw.push _⟩ fun b hb => ?_
    · simp [hsz]
    · rw [Heap.size_push]
      rcases List.mem_cons.mp hb with rfl | hb
      · exact Nat.lt_succ_self _
      · rw [List.mem_singleton.mp hb]; exact Nat.lt_succ_of_lt hlt
/-- the items as data -/
theorem wk_reads (hK : X.K = G.K) {pins : List (Addr × Obj)} {σ : L2.St} {H : Hp} {s : Shared} {μ : Mu} {xs : List PV} {ws : List V} {its : List Value} (I : Inv X pins σ H s) (hp : plains 58 xs = true) (hr : Reps G μ H xs ws) (rv : Vals ws its) : ∃ as, ReadsAll s.heap its (toDs xs) as :=
  Dp.readsAll I _ _ _ (hK ▸ reps_dp xs hp hr) rv
theorem best_run (hK : X.K = G.K) {pins : List (Addr × Obj)} {σ : L2.St} {H : Hp} {s : Shared} {μ : Mu} {y : PV} {r : List PV} {ws : List V} {its : List Value} {o : Obj} {Q : VK} {f : PyData → PyData → Bool} {g : PV} {v : Value} {s' : Shared} (I : Inv X pins σ H s) (hr : Reps G μ H (y :: r) ws) (rv : Vals ws its)
    (hg : g = r.foldl (fun a z => if f (toD z) (toD a) then z else a) y) (hv : its.toArray[argBest (fun i j => f ((toDs (y :: r)).getD i .none) ((toDs (y :: r)).getD j .none)) (its.length - 1)]? = some v)
    (m : Moved [s.heap.objs.size] (fun a b => b = a) { s with heap := s.heap.push o } s') (q : ∀ v, Rep G μ H g v → Q v H) : EP X pins σ Q v s' := by
  obtain ⟨h', tk, rfl, k⟩ := PySem.W.moved_old rfl rfl m
  have hl : its.length - 1 = r.length := by
    have h1 := rv.length
    have h2 := hr.length
    rw [List.length_cons] at h2
    omega
  rw [hl] at hv
  have e1 : (fun i j => f ((toDs (y :: r)).getD i .none) ((toDs (y :: r)).getD j .none)) = fun i j => (fun a b => f (toD a) (toD b)) ((y :: r).getD i .non) ((y :: r).getD j .non) := by
    funext i j
    rw [toDs_getD, toDs_getD]
  rw [e1] at hv
  have e2 := PySem.W.argBest_fold (fun a b => f (toD a) (toD b)) PV.non y r r.length (Nat.le_refl _)
  rw [List.take_length] at e2
  obtain ⟨e3, e4⟩ := e2
  generalize argBest (fun i j => (fun a b => f (toD a) (toD b)) ((y :: r).getD i .non) ((y :: r).getD j .non)) r.length = k0 at hv e3 e4
  have e5 : (y :: r)[k0]? = some g := by
    have hk : k0 < (y :: r).length := by rw [List.length_cons]; omega
    rw [List.getElem?_eq_getElem hk, hg]
    rw [List.getD_eq_getElem?_getD, List.getElem?_eq_getElem hk, Option.getD_some] at e4
    rw [e4]
  obtain ⟨w, e6, e7⟩ := hr.get e5
  obtain ⟨u, e8, e9⟩ := rv.get e6
  have e10 : v = u := by
    rw [List.getElem?_toArray] at hv
    rw [hv] at e8
    exact Option.some.inj e8
  exact ⟨w, H, I.kept (t' := tk) k, e10 ▸ e9, q w e7⟩
theorem cr_minV (hK : X.K = G.K) (hc : X.calm = true) (hu : X.A.units + 65 < cLine) : CallR X (.builtin "min") (rBestV G leastV) := by
  intro pins s σ H vs us Q I r h
  obtain ⟨a, y, r', ws, μ, rfl, k, hs, q⟩ := h
  obtain ⟨u, rfl, ru⟩ := vals1 r
  obtain rfl : u = Value.ref a := ru
  have hh : X.A.handled = none := I.ok.hd hc
  refine PySem.call_min_walkH (iter_wk hK (A := X.A.in1) hh I k fun its rv o St fp W st hfp => ?_)
  obtain ⟨as, rd⟩ := wk_reads hK I (sort_ok_alike hs).2.1 k.1 rv
  have hn : 0 < its.length := by rw [← rv.length, ← k.1.length, List.length_cons]; omega
  have hd := sortOk_depth hs
  have cmp := PySem.W.cmpIn_lt (prog := X.prog) (w := X.w) (s := s) (A := X.A.in1) (vs := its.toArray) (by simpa using rd) (sortOk_alike hs) (by show X.A.units + 1 + _ < _; omega)
  exact ⟨_, _, _, _, _, _, _, s.heap, _, rfl, W, st, hfp, hn, fun b ob e hb => absurd (Heap.lt_size e) ((List.mem_singleton.mp hb) ▸ Nat.lt_irrefl _), fun b ob e => Heap.get?_push_of_some _ e, cmp,
    fun v s' hv m => best_run hK I k.1 rv (leastV_fold y r') hv m q⟩
theorem cr_maxV (hK : X.K = G.K) (hc : X.calm = true) (hu : X.A.units + 65 < cLine) : CallR X (.builtin "max") (rBestV G greatestV) := by
  intro pins s σ H vs us Q I r h
  obtain ⟨a, y, r', ws, μ, rfl, k, hs, q⟩ := h
  obtain ⟨u, rfl, ru⟩ := vals1 r
  obtain rfl : u = Value.ref a := ru
  have hh : X.A.handled = none := I.ok.hd hc
  refine PySem.call_max_walkH (iter_wk hK (A := X.A.in1) hh I k fun its rv o St fp W st hfp => ?_)
  obtain ⟨as, rd⟩ := wk_reads hK I (sort_ok_alike hs).2.1 k.1 rv
  have hn : 0 < its.length := by rw [← rv.length, ← k.1.length, List.length_cons]; omega
  have hd := sortOk_depth hs
  have cmp := PySem.W.cmpIn_gt (prog := X.prog) (w := X.w) (s := s) (A := X.A.in1) (vs := its.toArray) (by simpa using rd) (sortOk_alike hs) (by show X.A.units + 1 + _ < _; omega)
  exact ⟨_, _, _, _, _, _, _, s.heap, _, rfl, W, st, hfp, hn, fun b ob e hb => absurd (Heap.lt_size e) ((List.mem_singleton.mp hb) ▸ Nat.lt_irrefl _), fun b ob e => Heap.get?_push_of_some _ e, cmp,
    fun v s' hv m => best_run hK (f := fun a b => PySem.W.dataLt b a) I k.1 rv (greatestV_fold y r') hv m q⟩
end
end Ev

/-! EvOps: the operators. -/
namespace Ev
open PySem PySem.Spec PyProof.Rows L2

/-- a tuple once, and not at all -/
theorem tuple_mul1 (l : Addr) (items : Array Value) (n : Nat) (dd : Option Addr) (sl : Array (Option Value)) (u : Tok) :
    Meets (Builtin.«tuple.__mul__» ⟨[.ref l, .int 1 u], []⟩) (fun _ R s => s.heap.get? l = some { cls := .type "tuple", dict := dd, data := .seq items n, slots := sl } ∧ R (.ok (.ret (Value.ref l))) s) :=
  .of_wp fun prog w A R s h => by
    obtain ⟨hp, g, d, tk, os⟩ := s
    obtain ⟨hl, h⟩ := h
    have f1 := AutoSeq1.idx_int
    wp_walk using wpAny_loadPart' hl
    repeat (first
      | (refine wpAny_ite_true (decide_eq_true (by simp)) ?_; wp_walk using wpAny_loadPart' hl))
    exact ⟨_, rfl, h⟩
theorem tuple_mul0 (l : Addr) (items : Array Value) (n : Nat) (dd : Option Addr) (sl : Array (Option Value)) (x : Int) (u : Tok) (c0 : (decide (x < -(2 ^ 63)) || decide (x ≥ 2 ^ 63)) = false) (c1 : (items.isEmpty || x == 1) = false) (c2 : (decide (x ≤ 0) || items.isEmpty) = true) :
    Meets (Builtin.«tuple.__mul__» ⟨[.ref l, .int x u], []⟩) (fun _ R s => s.heap.get? l = some { cls := .type "tuple", dict := dd, data := .seq items n, slots := sl } ∧
      R (.ok (.ret (Value.ref s.heap.objs.size))) { s with heap := s.heap.push { cls := Value.type "tuple", data := Data.seq #[] }, toks := s.toks }) :=
  .of_wp fun prog w A R s h => by
    obtain ⟨hp, g, d, tk, os⟩ := s
    obtain ⟨hl, h⟩ := h
    have f1 := AutoSeq1.idx_int
    wp_walk using wpAny_loadPart' hl
    repeat (first
      | (refine wpAny_ite_false (decide_eq_false (by rw [c0]; exact Bool.false_ne_true)) ?_; wp_walk using wpAny_loadPart' hl)
      | (refine wpAny_ite_false (decide_eq_false (by rw [c1]; exact Bool.false_ne_true)) ?_; wp_walk using wpAny_loadPart' hl)
      | (refine wpAny_ite_true (decide_eq_true (by rw [c2])) ?_; wp_walk using wpAny_loadPart' hl))
    exact ⟨_, rfl, h⟩
/-- tuple * int, once, not at all, below 0 -/
theorem op_repT1 {X : Cx} : OpR X (binaryOp .Mult) (fun x y H Q => ∃ l k xs, x = .ref l ∧ y = .int k ∧ SqT X.K H l xs ∧ xs ≠ [] ∧ xs.length ≤ 1000 ∧ -1000 ≤ k ∧ k ≤ 1 ∧ ((k = 1 ∧ Q (.ref l) H) ∨ (k ≤ 0 ∧ ∀ p, H p = none → Q (.ref p) (upd H p (.tup []))))) := by
  intro pins s σ H x y v u Q I rx ry h
  obtain ⟨l, k, xs, rfl, rfl, hT, hne, hz, h1, h2, q⟩ := h
  cases rx
  obtain ⟨t, rfl⟩ := ry
  obtain ⟨its, r, ⟨⟨cls, dd, data, sl⟩, ho, hc, n, hd⟩, hs⟩ := I.tuple hT
  simp only at hc hd
  subst hc hd
  have hle : its.length = xs.length := r.length.symm
  have hn : its ≠ [] := fun e => hne (by
    rw [e] at hle
    exact List.eq_nil_of_length_eq_zero hle.symm)
  have hi : its.toArray.isEmpty = false := by
    cases its with
    | nil => exact absurd rfl hn
    | cons a b => rfl
  have c0 : (decide (k < -(2 ^ 63)) || decide (k ≥ 2 ^ 63)) = false := by
    rw [decide_eq_false (by omega), decide_eq_false (by omega)] <;> rfl
  rcases q with ⟨rfl, q⟩ | ⟨hk, q⟩
  · refine wpAny_binaryOp_repeat_ref (T := "tuple") (U := "int") (by decide) ⟨_, ho, rfl⟩ (fun s' => typeIs_int s' 1 t) noFill_tuple_mul F.fills_int_mul F.slot_int_rmul repeat_tuple F.slot_int_index.lookup
      (call_meets F.slot_int_rmul (typeIs_int s 1 t) F.entry_int_rmul (F.args_int_rmul_2 _ _) (int_rmul_tuple 1 t l its.toArray n dd sl)
        ⟨ho, rfl, ⟨_, ho, rfl⟩, call_meets F.slot_tuple_mul ⟨_, ho, rfl⟩ F.entry_tuple_mul (F.args_tuple_mul_2 _ _) (tuple_mul1 l its.toArray n dd sl t) ⟨ho, ?_⟩⟩)
    exact ⟨.ref l, H, I, rfl, q⟩
  · have c1 : (its.toArray.isEmpty || k == 1) = false := by
      rw [hi, Bool.false_or]
      exact beq_eq_false_iff_ne.mpr (by omega)
    have c2 : (decide (k ≤ 0) || its.toArray.isEmpty) = true := by
      rw [decide_eq_true hk]; rfl
    refine wpAny_binaryOp_repeat_ref (T := "tuple") (U := "int") (by decide) ⟨_, ho, rfl⟩ (fun s' => typeIs_int s' k t) noFill_tuple_mul F.fills_int_mul F.slot_int_rmul repeat_tuple F.slot_int_index.lookup
      (call_meets F.slot_int_rmul (typeIs_int s k t) F.entry_int_rmul (F.args_int_rmul_2 _ _) (int_rmul_tuple k t l its.toArray n dd sl)
        ⟨ho, rfl, ⟨_, ho, rfl⟩, call_meets F.slot_tuple_mul ⟨_, ho, rfl⟩ F.entry_tuple_mul (F.args_tuple_mul_2 _ _) (tuple_mul0 l its.toArray n dd sl k t c0 c1 c2) ⟨ho, ?_⟩⟩)
    refine ⟨.ref s.heap.objs.size, _, I.laid (t' := s.toks) (o := .tup []) (fun b ob q => Heap.get?_push_of_some _ q) (Nat.le_refl _) ?_, rfl, q _ (I.hok.fresh (Nat.le_refl _))⟩
    exact ⟨by rw [sizeLine_eq]; decide, [], .nil, IsTup.new _ _⟩
def bop : Op → Operator
  | .add => .Add | .sub => .Sub | .mul => .Mult | .fdiv => .FloorDiv | .mod => .Mod | .pow => .Pow
/-- a binary operator by the evaluator's values -/
def rB (G : Pl) (op : Op) (m : Bool) : R2 := fun x y H Q => ∃ (W : WX) (σ : L2.St) (μ : Mu) (st : Sto) (px py : PV), RepSt G μ H st ∧ Rep G μ H px x ∧ Rep G μ H py y ∧ Post G W μ H σ (binop m st op px py) (Val G Q)
section
variable {X : Cx} {G : Pl}
theorem op_add_any (hK : X.K = G.K) (m : Bool) : OpR X (binaryOp .Add) (rB G .add m) := by
  intro pins s σ0 H x y v u Q I rx ry h
  obtain ⟨W, σ, μ, st, px, py, s0, hx, hy, p⟩ := h
  have lists : ∀ (a b : List PV), litems st px = some a → litems st py = some b → Post G W μ H σ (mkL m (a ++ b) st) (Val G Q) → wpAny (model X.prog X.w) X.A (binaryOp .Add v u) (EP X pins σ0 Q) X.xe s := fun a b e1 e2 p => by
    obtain ⟨a1, vs, rfl, q1, q2⟩ := rep_litems s0 hx e1
    obtain ⟨a2, ws, rfl, q3, q4⟩ := rep_litems s0 hy e2
    obtain ⟨l, k⟩ := p.mkL s0 (q2.append q4)
    exact op_cat pins s σ0 H _ _ v u Q I rx ry ⟨a1, a2, vs, ws, rfl, rfl, q1, q3, by simpa using l, k⟩
  have other : (match litems st px, litems st py with
    | some a, some b => mkL m (a ++ b) st
    | _, _ => R.bad) = binop m st .add px py → wpAny (model X.prog X.w) X.A (binaryOp .Add v u) (EP X pins σ0 Q) X.xe s := fun e => by
    rw [← e] at p
    cases e1 : litems st px with
    | none => rw [e1] at p; exact p.elim
    | some a =>
      cases e2 : litems st py with
      | none => rw [e1, e2] at p; exact p.elim
      | some b => rw [e1, e2] at p; exact lists a b e1 e2 p
  cases px with
  | int a => cases py with
    | int b =>
      cases (show x = .int a from hx)
      cases (show y = .int b from hy)
      exact op_add pins s σ0 H _ _ v u Q I rx ry ⟨a, b, rfl, rfl, Post.ok p s0 _ rfl⟩
    | _ => exact other rfl
  | tup a => cases py with
    | tup b =>
      obtain ⟨a1, vs, rfl, q1, q2⟩ := hx
      obtain ⟨a2, ws, rfl, q3, q4⟩ := hy
      have hl := p.mkT s0 (q2.append q4)
      refine op_catA pins s σ0 H _ _ v u Q I rx ry ⟨a1, a2, vs, ws, rfl, rfl, hK ▸ q1, hK ▸ q3, by simpa using hl.1, fun e => ?_, fun _ e => ?_, fun _ _ => hl.2⟩
      · -- the empty tuple ahead: the other one itself
        subst e
        have ea : a = [] := List.length_eq_zero_iff.mp (by rw [q2.length]; rfl)
        subst ea
        have p' : Post G W μ H σ (mkT b st) (Val G Q) := p
        unfold mkT lineOk at p'
        by_cases hb : b.length ≤ 16777216
        · rw [if_pos (decide_eq_true hb)] at p'
          exact Post.ok p' s0 _ ⟨a2, ws, rfl, q3, q4⟩
        · rw [if_neg (by simpa using hb)] at p'; exact p'.elim
      · subst e
        have eb : b = [] := List.length_eq_zero_iff.mp (by rw [q4.length]; rfl)
        subst eb
        have p' : Post G W μ H σ (mkT (a ++ []) st) (Val G Q) := p
        rw [List.append_nil] at p'
        unfold mkT lineOk at p'
        by_cases hb : a.length ≤ 16777216
        · rw [if_pos (decide_eq_true hb)] at p'
          exact Post.ok p' s0 _ ⟨a1, vs, rfl, q1, q2⟩
        · rw [if_neg (by simpa using hb)] at p'; exact p'.elim
    | _ => exact other rfl
  | str a => cases py with
    | str b =>
      cases (show x = .str ⟨a.toArray⟩ from hx)
      cases (show y = .str ⟨b.toArray⟩ from hy)
      have p' : Post G W μ H σ (if decide (a.length + b.length ≤ 16777216) then R.ok (.str (a ++ b)) st else R.bad) (Val G Q) := p
      by_cases c : decide (a.length + b.length ≤ 16777216) = true
      · rw [if_pos c] at p'
        refine op_add_str pins s σ0 H _ _ v u Q I rx ry ⟨_, _, rfl, rfl, ?_, Post.ok p' s0 _ ?_⟩
        · rw [SX.S_len, SX.S_len, sizeLine_eq]; exact of_decide_eq_true c
        · show V.str (SX.S a ++ SX.S b) = V.str (SX.S (a ++ b))
          rw [SX.S_cat]
      · rw [if_neg c] at p'; exact p'.elim
    | _ => exact p.elim
  | _ => exact other rfl
theorem tmul (a : List Nat) (k : Int) : Txt.mul (SX.S a) k = SX.S (List.replicate k.toNat a).flatten := by
  have fl : ∀ (n : Nat) (b : Array Nat), ((List.replicate n (SX.S a).cps).foldl (· ++ ·) b).toList = b.toList ++ (List.replicate n a).flatten := by
    intro n
    induction n with
    | zero => intro b; simp
    | succ n ih =>
      intro b
      rw [List.replicate_succ, List.foldl_cons, ih, List.replicate_succ, List.flatten_cons]
      simp
  refine TL.ext_tl ?_
  show (Txt.mul (SX.S a) k).cps.toList = (List.replicate k.toNat a).flatten
  unfold Txt.mul
  by_cases h : k < 1
  · rw [if_pos h, show k.toNat = 0 by omega]; rfl
  · rw [if_neg h]
    by_cases h1 : (k == 1 || (SX.S a).length == 0) = true
    · rw [if_pos h1]
      simp only [Bool.or_eq_true, beq_iff_eq, SX.S_len] at h1
      rcases h1 with h1 | h1
      · subst h1; simp
      · have : a = [] := List.length_eq_zero_iff.mp h1
        subst this; simp
    · rw [if_neg h1]
      have := fl k.toNat #[]
      simpa using this
theorem tmul_ok {a : List Nat} {k : Int} (h1 : -1000 ≤ k) (h2 : k ≤ 2000) (h3 : a.length ≤ 1000) : MulOk (SX.S a) k := by
  have h4 : ∀ _ : ¬ k < 1, a.length * k.toNat ≤ 1000 * 2000 := fun _ => Nat.mul_le_mul h3 (by omega)
  refine ⟨by rw [decide_eq_false (by omega), decide_eq_false (by omega)]; rfl, fun q _ => ?_, fun q _ => ?_⟩
  · rw [SX.S_len]
    intro z
    have : (4611686018427387 : Int) ≤ (2 ^ 63 - 1 : Int) / k := (Int.le_ediv_iff_mul_le (by omega)).mpr (by omega)
    omega
  · rw [SX.S_len]
    have := h4 q
    show decide (a.length * k.toNat > sizeLine) = false
    rw [sizeLine_eq]
    exact decide_eq_false (by omega)
theorem mulOk_ok {a b : Int} (h : mulOk a b = true) : IntMulOk a b := by
  have bits : ∀ x : Int, x.natAbs < 18446744073709551616 → Builtin.Int.intBits x ≤ 64 := fun x hx => by
    unfold Builtin.Int.intBits
    split
    · omega
    · rename_i hne
      have : x.natAbs.log2 < 64 := (Nat.log2_lt (by simpa using hne)).mpr (by simpa using hx)
      omega
  unfold mulOk at h
  simp only [Bool.or_eq_true, decide_eq_true_eq] at h
  rcases h with (h | h) | h
  · exact .of_left (bits a h)
  · have h' : ¬ (Builtin.Int.intBits b > shortFactorBits) := Nat.not_lt.mpr (bits b h)
    unfold IntMulOk; rw [decide_eq_false h']; simp
  · exact CMulW.ok h
theorem op_mulG : OpR X (binaryOp .Mult) (rI IntMulOk fun i j => .int (i * j)) := opI fun _ _ _ _ _ _ _ hc q => mul_int q hc
theorem op_bin (hK : X.K = G.K) (op : Op) (m : Bool) : OpR X (binaryOp (bop op)) (rB G op m) := by
  cases op with
  | add => exact op_add_any hK m
  | sub =>
    intro pins s σ0 H x y v u Q I rx ry h
    obtain ⟨W, σ, μ, st, px, py, s0, hx, hy, p⟩ := h
    cases px with
    | int a => cases py with
      | int b =>
        cases (show x = .int a from hx)
        cases (show y = .int b from hy)
        exact op_sub pins s σ0 H _ _ v u Q I rx ry ⟨a, b, rfl, rfl, Post.ok p s0 _ rfl⟩
      | _ => exact p.elim
    | bl a => cases py with
      | bl b =>
        cases (show x = .bl a from hx)
        cases (show y = .bl b from hy)
        cases rx
        cases ry
        exact PyProof.Rows.sub_bool ⟨.int ((if a then 1 else 0) - (if b then 1 else 0)), H, I.tok _, ⟨s.toks, by cases a <;> cases b <;> rfl⟩, Post.ok p s0 _ rfl⟩
      | _ => exact p.elim
    | _ => exact p.elim
  | mul =>
    intro pins s σ0 H x y v u Q I rx ry h
    obtain ⟨W, σ, μ, st, px, py, s0, hx, hy, p⟩ := h
    have lists : ∀ (k : Int) (xs : List PV), litems st px = some xs → py = .int k → Post G W μ H σ (if decide (-1000 ≤ k) && decide (k ≤ 1000) && decide (xs.length ≤ 1000) then mkL m (List.replicate k.toNat xs).flatten st else .bad) (Val G Q) → wpAny (model X.prog X.w) X.A (binaryOp .Mult v u) (EP X pins σ0 Q) X.xe s := fun k xs e ey pp => by
      subst ey
      cases (show y = .int k from hy)
      obtain ⟨a, vs, rfl, h1, h2⟩ := rep_litems s0 hx e
      by_cases c : (decide (-1000 ≤ k) && decide (k ≤ 1000) && decide (xs.length ≤ 1000)) = true
      · rw [if_pos c] at pp
        simp only [Bool.and_eq_true, decide_eq_true_eq] at c
        refine op_rep pins s σ0 H _ _ v u Q I rx ry ⟨a, k, vs, rfl, rfl, h1, by omega, by omega, ?_, (pp.mkL s0 (h2.rep k.toNat)).2⟩
        rw [← h2.length, sizeLine_eq]
        have : xs.length * k.toNat ≤ 1000 * 1000 := Nat.mul_le_mul c.2 (by omega)
        omega
      · rw [if_neg c] at pp; exact pp.elim
    cases px with
    | int a => cases py with
      | int b =>
        cases (show x = .int a from hx)
        cases (show y = .int b from hy)
        have p' : Post G W μ H σ (if mulOk a b then R.ok (.int (a * b)) st else R.bad) (Val G Q) := p
        by_cases c : mulOk a b = true
        · rw [if_pos c] at p'
          exact op_mulG pins s σ0 H _ _ v u Q I rx ry ⟨a, b, rfl, rfl, mulOk_ok c, Post.ok p' s0 _ rfl⟩
        · rw [if_neg c] at p'; exact p'.elim
      | _ => exact p.elim
    | tup xs => cases py with
      | int k =>
        cases (show y = .int k from hy)
        obtain ⟨a, vs, rfl, h1, h2⟩ := hx
        have p' : Post G W μ H σ (if repOk k xs.length && !xs.isEmpty then mkT (List.replicate k.toNat xs).flatten st else .bad) (Val G Q) := p
        by_cases c : (repOk k xs.length && !xs.isEmpty) = true
        · rw [if_pos c] at p'
          unfold repOk at c
          simp only [Bool.and_eq_true, decide_eq_true_eq, Bool.not_eq_true', List.isEmpty_eq_false_iff] at c
          have ne : vs ≠ [] := fun z => by
            rw [z] at h2
            exact c.2 (List.eq_nil_of_length_eq_zero h2.length)
          have few : vs.length ≤ 1000 := by rw [← h2.length]; exact c.1.2
          by_cases k2 : 2 ≤ k
          · exact op_repT pins s σ0 H _ _ v u Q I rx ry ⟨a, k, vs, rfl, rfl, hK ▸ h1, ne, k2, c.1.1.2, few, (p'.mkT s0 (h2.rep k.toNat)).2⟩
          · by_cases k1 : k = 1
            · subst k1
              have e : (List.replicate (1 : Int).toNat xs).flatten = xs := by simp
              rw [e] at p'
              unfold mkT lineOk at p'
              rw [if_pos (decide_eq_true (by have := c.1.2; omega))] at p'
              exact op_repT1 pins s σ0 H _ _ v u Q I rx ry ⟨a, 1, vs, rfl, rfl, hK ▸ h1, ne, few, by omega, by omega, .inl ⟨rfl, Post.ok p' s0 _ ⟨a, vs, rfl, h1, h2⟩⟩⟩
            · have e : k.toNat = 0 := by omega
              rw [e] at p'
              exact op_repT1 pins s σ0 H _ _ v u Q I rx ry ⟨a, k, vs, rfl, rfl, hK ▸ h1, ne, few, by omega, by omega, .inr ⟨by omega, (p'.mkT s0 (vs := []) rfl).2⟩⟩
        · rw [if_neg c] at p'; exact p'.elim
      | _ => exact p.elim
    | pl xs => cases py with
      | int k => exact lists k xs rfl rfl p
      | _ => exact p.elim
    | ml i => cases py with
      | int k =>
        cases e : st[i]? with
        | none =>
          have p' : Post G W μ H σ (match st[i]? with | some a => (if decide (-1000 ≤ k) && decide (k ≤ 1000) && decide (a.length ≤ 1000) then mkL m (List.replicate k.toNat a).flatten st else .bad) | none => .bad) (Val G Q) := p
          rw [e] at p'; exact p'.elim
        | some xs =>
          have p' : Post G W μ H σ (match st[i]? with | some a => (if decide (-1000 ≤ k) && decide (k ≤ 1000) && decide (a.length ≤ 1000) then mkL m (List.replicate k.toNat a).flatten st else .bad) | none => .bad) (Val G Q) := p
          rw [e] at p'; exact lists k xs e rfl p'
      | _ => exact p.elim
    | non => cases py <;> exact p.elim
    | bl _ => cases py <;> exact p.elim
    | str a => cases py with
      | int k =>
        cases (show x = .str ⟨a.toArray⟩ from hx)
        cases (show y = .int k from hy)
        have p' : Post G W μ H σ (if decide (-1000 ≤ k) && decide (k ≤ 2000) && decide (a.length ≤ 1000) then R.ok (.str (List.replicate k.toNat a).flatten) st else R.bad) (Val G Q) := p
        by_cases c : (decide (-1000 ≤ k) && decide (k ≤ 2000) && decide (a.length ≤ 1000)) = true
        · rw [if_pos c] at p'
          simp only [Bool.and_eq_true, decide_eq_true_eq] at c
          obtain ⟨t, rfl⟩ := rx
          obtain ⟨t', rfl⟩ := ry
          refine SB.mul (tmul_ok c.1.1 c.1.2 c.2) fun t'' k' => ?_
          refine ⟨.str (Txt.mul (SX.S a) k), H, I.tok _, ⟨_, rfl⟩, Post.ok p' s0 _ ?_⟩
          rw [tmul]; rfl
        · rw [if_neg c] at p'; exact p'.elim
      | _ => exact p.elim
    | scr _ => cases py <;> exact p.elim
    | fn _ => cases py <;> exact p.elim
    | exn => cases py <;> exact p.elim
    | dic _ _ => cases py <;> exact p.elim
    | md _ => cases py <;> exact p.elim
  | fdiv =>
    intro pins s σ0 H x y v u Q I rx ry h
    obtain ⟨W, σ, μ, st, px, py, s0, hx, hy, p⟩ := h
    cases px with
    | int a => cases py with
      | int b =>
        cases (show x = .int a from hx)
        cases (show y = .int b from hy)
        have p' : Post G W μ H σ (if fdivOk b then R.ok (.int (a / b)) st else if decide (b < 0) && decide (b.natAbs < 1073741824) then .ok (.int (a.fdiv b)) st else .bad) (Val G Q) := p
        by_cases c : fdivOk b = true
        · rw [if_pos c] at p'
          have c' : 0 < b ∧ b.natAbs.log2 < 9000 := by simpa [fdivOk] using c
          exact op_fdivW pins s σ0 H _ _ v u Q I rx ry ⟨a, b, rfl, rfl, c', Post.ok p' s0 _ rfl⟩
        · rw [if_neg c] at p'
          by_cases d : (decide (b < 0) && decide (b.natAbs < 1073741824)) = true
          · rw [if_pos d] at p'
            simp only [Bool.and_eq_true, decide_eq_true_eq] at d
            exact op_fdivN pins s σ0 H _ _ v u Q I rx ry ⟨a, b, rfl, rfl, ⟨by omega, d.2⟩, Post.ok p' s0 _ rfl⟩
          · rw [if_neg d] at p'; exact p'.elim
      | _ => exact p.elim
    | _ => exact p.elim
  | mod =>
    intro pins s σ0 H x y v u Q I rx ry h
    obtain ⟨W, σ, μ, st, px, py, s0, hx, hy, p⟩ := h
    cases px with
    | int a => cases py with
      | int b =>
        cases (show x = .int a from hx)
        cases (show y = .int b from hy)
        have p' : Post G W μ H σ (if decide (0 < b) then R.ok (.int (a % b)) st else R.bad) (Val G Q) := p
        by_cases c : decide (0 < b) = true
        · rw [if_pos c] at p'
          exact op_mod pins s σ0 H _ _ v u Q I rx ry ⟨a, b, rfl, rfl, of_decide_eq_true c, Post.ok p' s0 _ rfl⟩
        · rw [if_neg c] at p'; exact p'.elim
      | _ => exact p.elim
    | _ => exact p.elim
  | pow =>
    intro pins s σ0 H x y v u Q I rx ry h
    obtain ⟨W, σ, μ, st, px, py, s0, hx, hy, p⟩ := h
    cases px with
    | int a => cases py with
      | int b =>
        cases (show x = .int a from hx)
        cases (show y = .int b from hy)
        have p' : Post G W μ H σ (if powOk a b then R.ok (.int (a ^ b.toNat)) st else R.bad) (Val G Q) := p
        by_cases c : powOk a b = true
        · rw [if_pos c] at p'
          have c' : (0 ≤ b ∧ b ≤ 1000000) ∧ a.natAbs < 18446744073709551616 := by simpa [powOk] using c
          exact op_pow pins s σ0 H _ _ v u Q I rx ry ⟨a, b, rfl, rfl, ⟨c'.1.1, c'.1.2, c'.2⟩, Post.ok p' s0 _ rfl⟩
        · rw [if_neg c] at p'; exact p'.elim
      | _ => exact p.elim
    | _ => exact p.elim

/-! ### comparisons -/
def cop : Cm → CmpOp
  | .eq => .Eq | .ne => .NotEq | .lt => .Lt | .le => .LtE | .gt => .Gt | .ge => .GtE | .isin => .In | .notin => .NotIn
def rC (G : Pl) (op : Cm) : R2 := fun x y H Q => ∃ (μ : Mu) (st : Sto) (px py : PV) (b : Bool), RepSt G μ H st ∧ Rep G μ H px x ∧ Rep G μ H py y ∧ cmpop st op px py = some b ∧ Q (.bl b) H
theorem eqv_dp {μ : Mu} {H : Hp} {st : Sto} {px py : PV} {x y : V} {b : Bool} (s0 : RepSt G μ H st) (hx : Rep G μ H px x) (hy : Rep G μ H py y) (e : eqv st px py = some b) :
    ∃ d f, Dp G.K H x d ∧ Dp G.K H y f ∧ SeqAt.shaped d = true ∧ SeqAt.shaped f = true ∧ PyData.eqv d f = b := by
  have look : ∀ (z : PV) (v : V), Rep G μ H z v → ∀ w, deref st z = some w → plain 60 w = true → Dp G.K H v (toD w) := fun z v hz w ew pw => by
    cases z with
    | ml i =>
      obtain ⟨a, h1, h2, h3⟩ := hz
      have ew' : (st[i]?).map PV.pl = some w := ew
      obtain ⟨xs, e1, e2⟩ := Option.map_eq_some_iff.mp ew'
      obtain ⟨vs, q2, q3⟩ := s0.at_ i xs e1 h2 h3
      subst e2 h1
      exact .lst (SqL.of q2) (reps_dp (d := 59) xs (by simpa [plain] using pw) q3)
    | _ => cases ew; exact rep_dp _ pw hz
  unfold eqv at e
  split at e
  · rename_i a c e1 e2
    split at e
    · rename_i hp
      have hp' : plain 60 a = true ∧ plain 60 c = true := by simpa using hp
      cases e
      exact ⟨toD a, toD c, look px x hx a e1 hp'.1, look py y hy c e2 hp'.2, plain_shaped hp'.1 (by decide), plain_shaped hp'.2 (by decide), peq_eqv a c hp'.1 hp'.2⟩
    · cases e
  · cases e
theorem lexLt_eq : ∀ (a b : List Int), lexLt a b = HT.lexLt a b
  | [], [] => rfl
  | [], _ :: _ => rfl
  | _ :: _, [] => rfl
  | x :: xs, y :: ys => by unfold lexLt HT.lexLt; rw [lexLt_eq xs ys]
theorem any_eqv {x : PV} {xs : List PV} (hx : plain 59 x = true) (hxs : plains 59 xs = true) : (toDs xs).any (fun z => PyData.eqv z (toD x)) = xs.any fun z => peq z x := by
  induction xs with
  | nil => rfl
  | cons y ys ih =>
    have h : plain 59 y = true ∧ plains 59 ys = true := by simpa [plains] using hxs
    simp only [toDs, List.any_cons, peq_eqv y x h.1 hx, ih h.2]
theorem signIn_inv {st : Sto} {px py : PV} {b : Bool} (e : signIn st px py = some b) : (∃ c z, px = .str [c] ∧ py = .str z ∧ b = decide (c ∈ z)) ∨ ∃ o, dAt st py px = some o ∧ b = o.isSome := by
  unfold signIn at e
  split at e
  · rename_i c z
    cases e
    exact .inl ⟨c, z, rfl, rfl, rfl⟩
  · obtain ⟨o, e1, rfl⟩ := Option.map_eq_some_iff.mp e
    exact .inr ⟨o, e1, rfl⟩
theorem op_cm (hK : X.K = G.K) (hw : X.w = G.w) (hu : X.A.units + 65 < cLine) (op : Cm) : OpR X (compareOp (cop op)) (rC G op) := by
  intro pins s σ0 H x y v u Q I rx ry h
  obtain ⟨μ, st, px, py, b, s0, hx, hy, e, q⟩ := h
  have int2 : ∀ {i j : Int}, px = .int i → py = .int j → x = .int i ∧ y = .int j := fun {i j} e1 e2 => by
    subst e1 e2; exact ⟨hx, hy⟩
  have isIn : ∀ (ys : List PV), items st py = some ys → plain 59 px = true → plains 59 ys = true → ∃ d ds, Dp X.K H x d ∧ (Dp X.K H y (.list ds) ∨ Dp X.K H y (.tuple ds)) ∧ d = toD px ∧ ds = toDs ys := fun ys e1 hp hps => by
    obtain ⟨a, vs, q1, q2, q3⟩ := rep_items s0 hy e1
    refine ⟨_, _, hK ▸ rep_dp px hp hx, ?_, rfl, rfl⟩
    rw [hK, q1]
    rcases q2 with q2 | q2
    · exact .inl (.lst q2 (reps_dp ys hps q3))
    · exact .inr (.tup q2 (reps_dp ys hps q3))
  cases op with
  | eq =>
    obtain ⟨d, f, h1, h2, h3, h4, h5⟩ := eqv_dp s0 hx hy e
    exact op_eqD (by omega) pins s σ0 H x y v u Q I rx ry ⟨d, f, hK ▸ h1, hK ▸ h2, h3, h4, by rw [h5]; exact q⟩
  | ne =>
    have e' : (eqv st px py).map (!·) = some b := e
    obtain ⟨c, e1, e2⟩ := Option.map_eq_some_iff.mp e'
    obtain ⟨d, f, h1, h2, h3, h4, h5⟩ := eqv_dp s0 hx hy e1
    exact op_neD (by omega) pins s σ0 H x y v u Q I rx ry ⟨d, f, hK ▸ h1, hK ▸ h2, h3, h4, by rw [h5, e2]; exact q⟩
  | lt =>
    cases px with
    | int i => cases py with
      | int j =>
        obtain ⟨rfl, rfl⟩ := int2 rfl rfl
        cases e
        exact op_lt pins s σ0 H _ _ v u Q I rx ry ⟨i, j, rfl, rfl, q⟩
      | _ => cases e
    | tup a => cases py with
      | tup c =>
        have e' : (match intsV a, intsV c with
          | some xs, some ys => some (lexLt xs ys)
          | _, _ => none) = some b := e
        cases e1 : intsV a with
        | none => rw [e1] at e'; cases e'
        | some ns =>
          cases e2 : intsV c with
          | none => rw [e1, e2] at e'; cases e'
          | some ms =>
            rw [e1, e2] at e'
            cases e'
            obtain ⟨a1, vs, rfl, q1, q2⟩ := hx
            obtain ⟨a2, ws, rfl, q3, q4⟩ := hy
            rw [reps_ints e1 q2] at q1
            rw [reps_ints e2 q4] at q3
            exact op_ltT (by omega) pins s σ0 H _ _ v u Q I rx ry ⟨a1, a2, ns, ms, rfl, rfl, hK ▸ q1, hK ▸ q3, by rw [← lexLt_eq]; exact q⟩
      | _ => cases e
    | _ => cases e
  | le =>
    cases px with
    | int i => cases py with
      | int j =>
        obtain ⟨rfl, rfl⟩ := int2 rfl rfl
        cases e
        exact op_le pins s σ0 H _ _ v u Q I rx ry ⟨i, j, rfl, rfl, q⟩
      | _ => cases e
    | _ => cases e
  | gt =>
    cases px with
    | int i => cases py with
      | int j =>
        obtain ⟨rfl, rfl⟩ := int2 rfl rfl
        cases e
        exact op_gt pins s σ0 H _ _ v u Q I rx ry ⟨i, j, rfl, rfl, q⟩
      | _ => cases e
    | _ => cases e
  | ge =>
    cases px with
    | int i => cases py with
      | int j =>
        obtain ⟨rfl, rfl⟩ := int2 rfl rfl
        cases e
        exact op_ge pins s σ0 H _ _ v u Q I rx ry ⟨i, j, rfl, rfl, q⟩
      | _ => cases e
    | _ => cases e
  | isin =>
    cases e1 : items st py with
    | none =>
      rw [show cmpop st .isin px py = (match items st py with
        | some ys => if plain 59 px && plains 59 ys then some (ys.any fun z => peq z px) else none
        | none => signIn st px py) from rfl, e1] at e
      rcases signIn_inv (show signIn st px py = some b from e) with ⟨c, z, rfl, rfl, rfl⟩ | ⟨o, e3, rfl⟩
      · cases (show x = .str ⟨#[c]⟩ from hx)
        cases (show y = .str ⟨z.toArray⟩ from hy)
        exact op_in_sign pins s σ0 H _ _ v u Q I rx ry ⟨c, _, rfl, rfl, q⟩
      · obtain ⟨a, rfl, D⟩ := dlook hK hw I s0 hy hx e3
        cases (show u = .ref a from ry)
        exact dl_in hu I D rx fun s' I' => ⟨.bl _, H, I', rfl, q⟩
    | some ys =>
      rw [show cmpop st .isin px py = (match items st py with
        | some ys => if plain 59 px && plains 59 ys then some (ys.any fun z => peq z px) else none
        | none => signIn st px py) from rfl, e1] at e
      have e : (if (plain 59 px && plains 59 ys) = true then some (ys.any fun z => peq z px) else none) = some b := e
      split at e
      · rename_i hp
        have hp' : plain 59 px = true ∧ plains 59 ys = true := by simpa using hp
        cases e
        obtain ⟨d, ds, h1, h2, rfl, rfl⟩ := isIn ys e1 hp'.1 hp'.2
        obtain ⟨as, r1⟩ := Dp.reads I _ x v h1 rx
        have hroom : X.A.units + 1 + min (PyData.depthAll (toDs ys)) (toD px).depth < cLine := by
          have := (plain_lay px hp'.1).2
          omega
        rw [← any_eqv hp'.1 hp'.2] at q
        rcases h2 with h2 | h2
        · obtain ⟨bs, r2⟩ := Dp.reads I _ y u h2 ry
          exact SeqAt.in_list_reads r2 r1 (plains_lay ys hp'.2).1 (plain_lay px hp'.1).1 hroom ⟨.bl _, H, I, rfl, q⟩
        · obtain ⟨bs, r2⟩ := Dp.reads I _ y u h2 ry
          exact SeqAt.in_tuple_reads r2 r1 (plains_lay ys hp'.2).1 (plain_lay px hp'.1).1 hroom ⟨.bl _, H, I, rfl, q⟩
      · cases e
  | notin =>
    cases e1 : items st py with
    | none =>
      rw [show cmpop st .notin px py = (match items st py with
        | some ys => if plain 59 px && plains 59 ys then some (!ys.any fun z => peq z px) else none
        | none => (signIn st px py).map (!·)) from rfl, e1] at e
      obtain ⟨b', e3, rfl⟩ := Option.map_eq_some_iff.mp (show (signIn st px py).map (!·) = some b from e)
      rcases signIn_inv e3 with ⟨c, z, rfl, rfl, rfl⟩ | ⟨o, e4, rfl⟩
      · cases (show x = .str ⟨#[c]⟩ from hx)
        cases (show y = .str ⟨z.toArray⟩ from hy)
        exact op_notIn_sign pins s σ0 H _ _ v u Q I rx ry ⟨c, _, rfl, rfl, q⟩
      · obtain ⟨a, rfl, D⟩ := dlook hK hw I s0 hy hx e4
        cases (show u = .ref a from ry)
        exact dl_notIn hu I D rx fun s' I' => ⟨.bl _, H, I', rfl, q⟩
    | some ys =>
      rw [show cmpop st .notin px py = (match items st py with
        | some ys => if plain 59 px && plains 59 ys then some (!ys.any fun z => peq z px) else none
        | none => (signIn st px py).map (!·)) from rfl, e1] at e
      have e : (if (plain 59 px && plains 59 ys) = true then some (!ys.any fun z => peq z px) else none) = some b := e
      split at e
      · rename_i hp
        have hp' : plain 59 px = true ∧ plains 59 ys = true := by simpa using hp
        cases e
        obtain ⟨d, ds, h1, h2, rfl, rfl⟩ := isIn ys e1 hp'.1 hp'.2
        obtain ⟨as, r1⟩ := Dp.reads I _ x v h1 rx
        have hroom : X.A.units + 1 + min (PyData.depthAll (toDs ys)) (toD px).depth < cLine := by
          have := (plain_lay px hp'.1).2
          omega
        rw [← any_eqv hp'.1 hp'.2] at q
        rcases h2 with h2 | h2
        · obtain ⟨bs, r2⟩ := Dp.reads I _ y u h2 ry
          exact SeqAt.notIn_list_reads r2 r1 (plains_lay ys hp'.2).1 (plain_lay px hp'.1).1 hroom ⟨.bl _, H, I, rfl, q⟩
        · obtain ⟨bs, r2⟩ := Dp.reads I _ y u h2 ry
          exact SeqAt.notIn_tuple_reads r2 r1 (plains_lay ys hp'.2).1 (plain_lay px hp'.1).1 hroom ⟨.bl _, H, I, rfl, q⟩
      · cases e
end
end Ev

/-! EvPrim: truth, built-in functions, lists' methods. -/
namespace Ev
open PySem PySem.Spec PyProof.Rows L2
section
variable {X : Cx} {G : Pl}
theorem truth_v {μ : Mu} {H : Hp} {st : Sto} {x : PV} {v : V} {b : Bool} (s0 : RepSt G μ H st) (h : Rep G μ H x v) (e : truth st x = some b) : TruV G.K v H b := by
  have emp : ∀ {xs : List PV} {vs : List V}, Reps G μ H xs vs → (!xs.isEmpty) = !vs.isEmpty := fun {xs vs} r => by
    have := r.length
    cases xs <;> cases vs <;> simp_all
  cases x with
  | non => cases e; rw [show v = _ from h]; rfl
  | bl c => cases e; rw [show v = _ from h]; rfl
  | int i =>
    cases e; rw [show v = _ from h]
    show decide (i ≠ 0) = (i != 0)
    by_cases hi : i = 0 <;> simp [hi]
  | tup xs =>
    cases e
    obtain ⟨a, vs, rfl, q1, q2⟩ := h
    exact .inr (.inl ⟨vs, q1, emp q2⟩)
  | pl xs =>
    cases e
    obtain ⟨a, vs, rfl, _, q1, q2⟩ := h
    exact .inl ⟨vs, SqL.of q1, emp q2⟩
  | ml i =>
    have e' : (st[i]?).map (fun xs => !xs.isEmpty) = some b := e
    obtain ⟨xs, e1, e2⟩ := Option.map_eq_some_iff.mp e'
    obtain ⟨a, rfl, h2, h3⟩ := h
    obtain ⟨vs, q2, q3⟩ := s0.at_ i xs e1 h2 h3
    subst e2
    exact .inl ⟨vs, SqL.of q2, emp q3⟩
  | str _ => cases e
  | scr _ => cases e
  | fn _ => cases e
  | exn => cases e
  | dic _ _ => cases e
  | md _ => cases e

/-! ### built-in functions -/
def bfn : Pr → Value
  | .len => .builtin "len" | .int => .type "int" | .abs => .builtin "abs" | .gcd => .builtin "math.gcd" | .tuple => .type "tuple" | .list => .type "list" | .all => .builtin "all" | .any => .builtin "any"
  | .str => .type "str" | .sum => .builtin "sum" | .max => .builtin "max" | .min => .builtin "min" | .max2 => .builtin "max" | .min2 => .builtin "min" | .sorted => .builtin "sorted" | .set => .type "set" | .sset => .builtin "sorted"
def rP (G : Pl) (p : Pr) (m : Bool) : List V → Hp → VK → Prop := fun vs H Q => ∃ (W : WX) (σ : L2.St) (μ : Mu) (st : Sto) (pxs : List PV), RepSt G μ H st ∧ Reps G μ H pxs vs ∧ Post G W μ H σ (prim m st p pxs) (Val G Q)
theorem reps1 {μ : Mu} {H : Hp} {x : PV} {vs : List V} (h : Reps G μ H [x] vs) : ∃ v, vs = [v] ∧ Rep G μ H x v := by
  obtain ⟨v, r, h1, h2, h3⟩ := h
  rw [show r = [] from h3] at h1
  exact ⟨v, h1, h2⟩
theorem reps2 {μ : Mu} {H : Hp} {x y : PV} {vs : List V} (h : Reps G μ H [x, y] vs) : ∃ v w, vs = [v, w] ∧ Rep G μ H x v ∧ Rep G μ H y w := by
  obtain ⟨v, r, h1, h2, h3⟩ := h
  obtain ⟨w, rfl, h4⟩ := reps1 h3
  exact ⟨v, w, h1, h2, h4⟩
theorem imax_ge : ∀ (ns : List Int) (n : Int), n ≤ imax ns n ∧ ∀ y ∈ ns, y ≤ imax ns n
  | [], n => ⟨Int.le_refl _, fun _ h => nomatch h⟩
  | x :: r, n => by
    have h := imax_ge r (if x > n then x else n)
    have e : imax (x :: r) n = imax r (if x > n then x else n) := rfl
    rw [e]
    refine ⟨by have := h.1; split at this <;> omega, fun y hy => ?_⟩
    rcases List.mem_cons.mp hy with rfl | hy
    · have := h.1; split at this <;> omega
    · exact h.2 y hy
theorem imax_mem : ∀ (ns : List Int) (n : Int), imax ns n = n ∨ imax ns n ∈ ns
  | [], n => .inl rfl
  | x :: r, n => by
    have e : imax (x :: r) n = imax r (if x > n then x else n) := rfl
    rw [e]
    rcases imax_mem r (if x > n then x else n) with h | h
    · rw [h]; split
      · exact .inr List.mem_cons_self
      · exact .inl rfl
    · exact .inr (List.mem_cons_of_mem _ h)
theorem imin_le : ∀ (ns : List Int) (n : Int), imin ns n ≤ n ∧ ∀ y ∈ ns, imin ns n ≤ y
  | [], n => ⟨Int.le_refl _, fun _ h => nomatch h⟩
  | x :: r, n => by
    have h := imin_le r (if x < n then x else n)
    have e : imin (x :: r) n = imin r (if x < n then x else n) := rfl
    rw [e]
    refine ⟨by have := h.1; split at this <;> omega, fun y hy => ?_⟩
    rcases List.mem_cons.mp hy with rfl | hy
    · have := h.1; split at this <;> omega
    · exact h.2 y hy
theorem imin_mem : ∀ (ns : List Int) (n : Int), imin ns n = n ∨ imin ns n ∈ ns
  | [], n => .inl rfl
  | x :: r, n => by
    have e : imin (x :: r) n = imin r (if x < n then x else n) := rfl
    rw [e]
    rcases imin_mem r (if x < n then x else n) with h | h
    · rw [h]; split
      · exact .inr List.mem_cons_self
      · exact .inl rfl
    · exact .inr (List.mem_cons_of_mem _ h)

theorem wk_items {μ : Mu} {H : Hp} {st : Sto} {x : PV} {v : V} {xs : List PV} (s0 : RepSt G μ H st) (h : Rep G μ H x v) (e : items st x = some xs) : ∃ a ws, v = .ref a ∧ WkS G μ H a xs ws := by
  obtain ⟨a, vs, h1, h2, h3⟩ := rep_items s0 h e
  exact ⟨a, vs, h1, h3, h2.imp id .inl⟩
theorem dict_rep {μ : Mu} {H : Hp} {st : Sto} {x : PV} {v : V} {xs : List PV} (s0 : RepSt G μ H st) (h : Rep G μ H x v) (e : ditems st x = some xs) : ∃ a vs o ys, v = .ref a ∧ H a = some (dO a o) ∧ DictO G.w a o ys ∧ keysT xs = some (ys.map (·.1)) ∧ Ents vs ys ∧ Reps G μ H xs vs := by
  cases x <;> first | cases e | skip
  · rename_i t l
    cases t <;> cases e
    obtain ⟨a, vs, ob, ys, h1, _, h3, h4, h5, h6, h7⟩ := h
    exact ⟨a, vs, ob, ys, h1, h3, h4, h5, h6, h7⟩
  · rename_i i
    obtain ⟨a, h1, h2, h3⟩ := h
    obtain ⟨vs, ob, ys, q1, q2, q3, q4, q5⟩ := s0.atD i xs e h2 h3
    exact ⟨a, vs, ob, ys, h1, q1, q2, q3, q4, q5⟩
theorem wk_dict {μ : Mu} {H : Hp} {st : Sto} {x : PV} {v : V} {xs : List PV} (s0 : RepSt G μ H st) (h : Rep G μ H x v) (e : ditems st x = some xs) : ∃ a ws, v = .ref a ∧ WkS G μ H a (dkeys xs) ws := by
  obtain ⟨a, vs, o, ys, h1, h2, h3, h4, h5, h6⟩ := dict_rep s0 h e
  exact ⟨a, keyV ys, h1, (dkeys_reps h4 h5 h6).1, .inr (.inr ⟨o, ys, h2, h3, rfl⟩)⟩
section
variable {pins : List (Addr × Obj)} {s : Shared} {σ0 σ : L2.St} {H : Hp} {us : List Value} {Q : VK} {W : WX} {μ : Mu} {st : Sto} {x : PV} {v : V} {m : Bool}
theorem min_any (hK : X.K = G.K) (hc : X.calm = true) (hun : X.A.units + 65 < cLine) (I : Inv X pins σ0 H s) (s0 : RepSt G μ H st) (hv : Rep G μ H x v) (rv : Vals [v] us) (q : Post G W μ H σ (minS st x) (Val G Q)) :
    wpAny (model X.prog X.w) X.A (call (.builtin "min") us) (EP X pins σ0 Q) X.xe s := by
  unfold minS at q
  have run : ∀ (y : PV) (r : List PV) (a : Addr) (ws : List V), v = .ref a → WkS G μ H a (y :: r) ws → Post G W μ H σ (if sortOk (y :: r) then .ok (leastV y r) st else .bad) (Val G Q) → wpAny (model X.prog X.w) X.A (call (.builtin "min") us) (EP X pins σ0 Q) X.xe s := fun y r a ws e k p => by
    subst e
    split at p
    · rename_i hs
      exact cr_minV hK hc hun pins s σ0 H _ us Q I rv ⟨a, y, r, ws, μ, rfl, k, hs, fun v' r' => Post.ok p s0 v' r'⟩
    · exact (p : False).elim
  split at q
  · rename_i y r e
    obtain ⟨a, ws, h1, h2⟩ := wk_items s0 hv e
    exact run y r a ws h1 h2 q
  · split at q
    · rename_i xs e
      split at q
      · rename_i y r ek
        obtain ⟨a, ws, h1, h2⟩ := wk_dict s0 hv e
        rw [ek] at h2
        exact run y r a ws h1 h2 q
      · exact (q : False).elim
    · exact (q : False).elim
theorem max_any (hK : X.K = G.K) (hc : X.calm = true) (hun : X.A.units + 65 < cLine) (I : Inv X pins σ0 H s) (s0 : RepSt G μ H st) (hv : Rep G μ H x v) (rv : Vals [v] us) (q : Post G W μ H σ (maxS st x) (Val G Q)) :
    wpAny (model X.prog X.w) X.A (call (.builtin "max") us) (EP X pins σ0 Q) X.xe s := by
  unfold maxS at q
  split at q
  · rename_i y r e
    obtain ⟨a, ws, rfl, k⟩ := wk_items s0 hv e
    split at q
    · rename_i hs
      exact cr_maxV hK hc hun pins s σ0 H _ us Q I rv ⟨a, y, r, ws, μ, rfl, k, hs, fun v' r' => Post.ok q s0 v' r'⟩
    · exact (q : False).elim
  · exact (q : False).elim
theorem sorted_any (hK : X.K = G.K) (hc : X.calm = true) (hun : X.A.units + 65 < cLine) (I : Inv X pins σ0 H s) (s0 : RepSt G μ H st) (hv : Rep G μ H x v) (rv : Vals [v] us) (q : Post G W μ H σ (sortS m st x) (Val G Q)) :
    wpAny (model X.prog X.w) X.A (call (.builtin "sorted") us) (EP X pins σ0 Q) X.xe s := by
  unfold sortS at q
  split at q
  · rename_i xs e
    split at q
    · rename_i hs
      obtain ⟨a, vs, o, ys, rfl, h2, h3, h4, h5, h6⟩ := dict_rep s0 hv e
      refine cr_sortK hK hc hun pins s σ0 H _ us Q I rv ⟨a, o, xs, vs, ys, μ, rfl, h2, h3, h4, h5, h6, hs, fun p out hp r => ?_⟩
      exact (q.mkL s0 r).2 p hp
    · exact (q : False).elim
  · exact (q : False).elim
end
theorem cr_prim (hK : X.K = G.K) (hc : X.calm = true) (hun : X.A.units + 65 < cLine) (p : Pr) (m : Bool) : CallR X (bfn p) (rP G p m) := by
  intro pins s σ0 H vs us Q I rv h
  obtain ⟨W, σ, μ, st, pxs, s0, hx, q⟩ := h
  have seqs : ∀ {x : PV} {v : V} {xs : List PV}, Rep G μ H x v → items st x = some xs → ∃ a ws, v = .ref a ∧ (SqL X.K H a ws ∨ SqT X.K H a ws) ∧ Reps G μ H xs ws := fun {x v xs} hv e => by
    rw [hK]; exact rep_items s0 hv e
  have nums : ∀ {x : PV} {v : V} {ns : List Int}, Rep G μ H x v → (litems st x).bind intsV = some ns → ∃ a, v = .ref a ∧ SqL X.K H a (ns.map V.int) := fun {x v ns} hv e => by
    obtain ⟨xs, e1, e2⟩ := Option.bind_eq_some_iff.mp e
    obtain ⟨a, ws, rfl, q1, q2⟩ := rep_litems s0 hv e1
    rw [reps_ints e2 q2] at q1
    exact ⟨a, rfl, SqL.of q1⟩
  have flags : ∀ {x : PV} {v : V} {ns : List Bool}, Rep G μ H x v → (litems st x).bind boolsV = some ns → ∃ a, v = .ref a ∧ SqL X.K H a (ns.map V.bl) := fun {x v ns} hv e => by
    obtain ⟨xs, e1, e2⟩ := Option.bind_eq_some_iff.mp e
    obtain ⟨a, ws, rfl, q1, q2⟩ := rep_litems s0 hv e1
    rw [reps_bools e2 q2] at q1
    exact ⟨a, rfl, SqL.of q1⟩
  cases p with
  | len =>
    unfold prim at q
    split at q <;> first | exact (q : False).elim | contradiction | skip
    rename_i x _
    obtain ⟨v, rfl, hv⟩ := reps1 hx
    split at q <;> first | exact (q : False).elim | skip
    · rename_i xs e
      obtain ⟨a, ws, rfl, q1, q2⟩ := seqs hv e
      exact call_len_seq pins s σ0 H _ us Q I rv ⟨a, ws, rfl, q1, by rw [← q2.length]; exact Post.ok q s0 _ rfl⟩
    · unfold lenS at q
      split at q <;> first | exact (q : False).elim | skip
      rename_i z _
      split at q <;> first | exact (q : False).elim | skip
      rename_i hz
      cases (show v = .str ⟨z.toArray⟩ from hv)
      exact call_len_str pins s σ0 H _ us Q I rv ⟨_, rfl, by rw [SX.S_len, sizeLine_eq]; exact of_decide_eq_true hz, by rw [SX.S_len]; exact Post.ok q s0 _ rfl⟩
  | str =>
    unfold prim at q
    split at q <;> first | exact (q : False).elim | contradiction | skip
    rename_i i _
    obtain ⟨v, rfl, hv⟩ := reps1 hx
    cases (show v = .int i from hv)
    split at q <;> first | exact (q : False).elim | skip
    rename_i hz
    simp only [Bool.and_eq_true, decide_eq_true_eq] at hz
    refine call_str_int pins s σ0 H _ us Q I rv ⟨i, rfl, hz.2, ?_⟩
    have e : Str.ofString (toString i) = SX.S (TL.numL i.toNat) := by
      have := SX.num_S i.toNat
      rw [Int.toNat_of_nonneg hz.1] at this
      exact this
    exact Post.ok q s0 _ (show V.str (Str.ofString (toString i)) = _ from by rw [e])
  | int =>
    unfold prim at q
    split at q <;> first | exact (q : False).elim | contradiction | skip
    · rename_i z _
      obtain ⟨v, rfl, hv⟩ := reps1 hx
      cases (show v = .str ⟨z.toArray⟩ from hv)
      split at q <;> first | exact (q : False).elim | skip
      rename_i hz
      rw [Bool.and_eq_true, Bool.and_eq_true, Bool.not_eq_true', List.isEmpty_eq_false_iff, decide_eq_true_eq] at hz
      exact call_int_str pins s σ0 H _ us Q I rv ⟨_, _, rfl, SX.int_S hz.1 hz.2.1 (by omega), by rw [SX.S_len]; exact hz.2.2, Post.ok q s0 _ rfl⟩
    · rename_i i _
      obtain ⟨v, rfl, hv⟩ := reps1 hx
      cases (show v = .int i from hv)
      exact call_int1 pins s σ0 H _ us Q I rv (.inl ⟨i, rfl, Post.ok q s0 _ rfl⟩)
    · rename_i i _
      obtain ⟨v, rfl, hv⟩ := reps1 hx
      cases (show v = .bl i from hv)
      exact call_int1 pins s σ0 H _ us Q I rv (.inr ⟨i, rfl, Post.ok q s0 _ rfl⟩)
  | abs =>
    unfold prim at q
    split at q <;> first | exact (q : False).elim | contradiction | skip
    rename_i i _
    obtain ⟨v, rfl, hv⟩ := reps1 hx
    cases (show v = .int i from hv)
    exact call_abs pins s σ0 H _ us Q I rv ⟨i, rfl, Post.ok q s0 _ rfl⟩
  | gcd =>
    unfold prim at q
    split at q <;> first | exact (q : False).elim | contradiction | skip
    rename_i a b _
    obtain ⟨v, w, rfl, hv, hw⟩ := reps2 hx
    cases (show v = .int a from hv)
    cases (show w = .int b from hw)
    exact cr_gcd pins s σ0 H _ us Q I rv ⟨a, b, rfl, Post.ok q s0 _ rfl⟩
  | tuple =>
    unfold prim at q
    split at q <;> first | exact (q : False).elim | contradiction | skip
    rename_i x _
    obtain ⟨v, rfl, hv⟩ := reps1 hx
    split at q <;> first | exact (q : False).elim | skip
    rename_i xs e
    obtain ⟨a, ws, e1, q1, q2⟩ := seqs hv e
    subst e1
    refine call_tuple_of pins s σ0 H _ us Q I rv ⟨a, ws, rfl, ?_⟩
    have k := q.mkT s0 q2
    rcases q1 with q1 | q1
    · exact .inl ⟨q1, k.2⟩
    · refine .inr ⟨q1, ?_⟩
      have p' := q
      unfold mkT lineOk at p'
      by_cases hb : xs.length ≤ 16777216
      · rw [if_pos (decide_eq_true hb)] at p'
        exact Post.ok p' s0 _ ⟨a, ws, rfl, hK ▸ q1, q2⟩
      · rw [if_neg (by simpa using hb)] at p'; exact p'.elim
  | list =>
    unfold prim at q
    split at q <;> first | exact (q : False).elim | contradiction | skip
    rename_i x _
    obtain ⟨v, rfl, hv⟩ := reps1 hx
    split at q <;> first | exact (q : False).elim | skip
    rename_i xs e
    obtain ⟨a, ws, rfl, q1, q2⟩ := seqs hv e
    exact call_list_of pins s σ0 H _ us Q I rv ⟨a, ws, rfl, q1, (q.mkL s0 q2).2⟩
  | all =>
    unfold prim at q
    split at q <;> first | exact (q : False).elim | contradiction | skip
    rename_i x _
    obtain ⟨v, rfl, hv⟩ := reps1 hx
    split at q <;> first | exact (q : False).elim | skip
    rename_i bs e
    obtain ⟨a, rfl, q1⟩ := flags hv e
    exact cr_all hc pins s σ0 H _ us Q I rv ⟨a, bs, rfl, q1, Post.ok q s0 _ rfl⟩
  | any =>
    unfold prim at q
    split at q <;> first | exact (q : False).elim | contradiction | skip
    rename_i x _
    obtain ⟨v, rfl, hv⟩ := reps1 hx
    split at q <;> first | exact (q : False).elim | skip
    rename_i bs e
    obtain ⟨a, rfl, q1⟩ := flags hv e
    exact cr_any hc pins s σ0 H _ us Q I rv ⟨a, bs, rfl, q1, Post.ok q s0 _ rfl⟩
  | sum =>
    unfold prim at q
    split at q <;> first | exact (q : False).elim | contradiction | skip
    rename_i x _
    obtain ⟨v, rfl, hv⟩ := reps1 hx
    split at q <;> first | exact (q : False).elim | skip
    rename_i ns e
    obtain ⟨a, rfl, q1⟩ := nums hv e
    exact cr_sum hc pins s σ0 H _ us Q I rv ⟨a, ns, rfl, q1, Post.ok q s0 _ rfl⟩
  | max =>
    unfold prim at q
    split at q <;> first | exact (q : False).elim | contradiction | skip
    rename_i x _
    obtain ⟨v, rfl, hv⟩ := reps1 hx
    split at q
    rotate_left
    · exact max_any hK hc hun I s0 hv rv q
    rename_i n ns e
    obtain ⟨a, rfl, q1⟩ := nums hv e
    refine cr_max hc pins s σ0 H _ us Q I rv ⟨a, n :: ns, rfl, q1, by simp, fun m hm hy => ?_⟩
    have e1 : m = imax ns n := by
      have h1 := imax_ge ns n
      have h2 := imax_mem ns n
      refine Int.le_antisymm ?_ (hy _ (h2.elim (fun h2 => by rw [h2]; exact List.mem_cons_self) (List.mem_cons_of_mem _)))
      rcases List.mem_cons.mp hm with rfl | hm
      · exact h1.1
      · exact h1.2 m hm
    rw [e1]; exact Post.ok q s0 _ rfl
  | min =>
    unfold prim at q
    split at q <;> first | exact (q : False).elim | contradiction | skip
    rename_i x _
    obtain ⟨v, rfl, hv⟩ := reps1 hx
    split at q
    rotate_left
    · exact min_any hK hc hun I s0 hv rv q
    rename_i n ns e
    obtain ⟨a, rfl, q1⟩ := nums hv e
    refine cr_min hc pins s σ0 H _ us Q I rv ⟨a, n :: ns, rfl, q1, by simp, fun m hm hy => ?_⟩
    have e1 : m = imin ns n := by
      have h1 := imin_le ns n
      have h2 := imin_mem ns n
      refine Int.le_antisymm (hy _ (h2.elim (fun h2 => by rw [h2]; exact List.mem_cons_self) (List.mem_cons_of_mem _))) ?_
      rcases List.mem_cons.mp hm with rfl | hm
      · exact h1.1
      · exact h1.2 m hm
    rw [e1]; exact Post.ok q s0 _ rfl
  | max2 =>
    unfold prim at q
    split at q <;> first | exact (q : False).elim | contradiction | skip
    · rename_i a b _
      obtain ⟨v, w, rfl, hv, hw⟩ := reps2 hx
      cases (show v = .int a from hv)
      cases (show w = .int b from hw)
      exact call_max2 hc pins s σ0 H _ us Q I rv ⟨a, b, rfl, Post.ok q s0 _ rfl⟩
    · rename_i a b _
      obtain ⟨v, w, rfl, hv, hw⟩ := reps2 hx
      split at q <;> first | exact (q : False).elim | skip
      rename_i hk
      obtain ⟨_, p1, p2⟩ := alike_two hk
      refine cr_max2D hc hun pins s σ0 H _ us Q I rv ⟨v, w, .tup a, .tup b, rfl, hK ▸ rep_dp _ p1 hv, hK ▸ rep_dp _ p2 hw, hk, ?_⟩
      by_cases c : PySem.W.dataLt (toD (.tup a)) (toD (.tup b)) = true
      · rw [if_pos c] at q; simp only [if_true, c]; exact Post.ok q s0 _ hw
      · rw [if_neg c] at q; simp only [if_true, c, if_false]; exact Post.ok q s0 _ hv
  | min2 =>
    unfold prim at q
    split at q <;> first | exact (q : False).elim | contradiction | skip
    · rename_i a b _
      obtain ⟨v, w, rfl, hv, hw⟩ := reps2 hx
      cases (show v = .int a from hv)
      cases (show w = .int b from hw)
      exact call_min2 hc pins s σ0 H _ us Q I rv ⟨a, b, rfl, Post.ok q s0 _ rfl⟩
    · rename_i a b _
      obtain ⟨v, w, rfl, hv, hw⟩ := reps2 hx
      split at q <;> first | exact (q : False).elim | skip
      rename_i hk
      obtain ⟨_, p1, p2⟩ := alike_two hk
      refine cr_min2D hc hun pins s σ0 H _ us Q I rv ⟨v, w, .tup a, .tup b, rfl, hK ▸ rep_dp _ p1 hv, hK ▸ rep_dp _ p2 hw, hk, ?_⟩
      by_cases c : PySem.W.dataLt (toD (.tup b)) (toD (.tup a)) = true
      · rw [if_pos c] at q; simp only [Bool.false_eq_true, if_false, c, if_true]; exact Post.ok q s0 _ hw
      · rw [if_neg c] at q; simp only [Bool.false_eq_true, if_false, c]; exact Post.ok q s0 _ hv
  | sorted =>
    unfold prim at q
    split at q <;> first | exact (q : False).elim | contradiction | skip
    rename_i x _
    obtain ⟨v, rfl, hv⟩ := reps1 hx
    split at q
    rotate_left
    · exact sorted_any hK hc hun I s0 hv rv q
    rename_i xs e
    split at q <;> first | exact (q : False).elim | skip
    rename_i hk
    obtain ⟨a, ws, rfl, q1, q2⟩ := rep_litems s0 hv e
    obtain ⟨bs, rfl, rfl, e3⟩ := reps_zip q2
    obtain ⟨_, k2, _, _⟩ := sort_ok_alike hk
    have pl : ∀ b ∈ bs, plain 58 b.2 = true := fun b m => plains_mem k2 (List.mem_map.mpr ⟨b, m, rfl⟩)
    have rp : Reps G μ H (isort (bs.map Prod.snd)) ((bs.mergeSort (fun x y => sle x.2 y.2)).map Prod.fst) := by
      rw [isort_eq, ← PySem.W.sort_maps (r := fun x y : V × PV => sle x.2 y.2) Prod.snd (fun _ _ _ _ => rfl)]
      exact zip_reps fun b m => e3 b ((List.mergeSort_perm bs _).mem_iff.mp m)
    refine cr_sortedD hun pins s σ0 H _ us Q I rv ⟨a, bs, rfl, SqL.of q1, fun b m => ⟨hK ▸ rep_dp b.2 (pl b m) (e3 b m), ?_⟩, hk, (q.mkL s0 rp).2⟩
    have := (plain_lay (d := 58) b.2 (pl b m)).2
    omega
  | set => unfold prim at q; split at q <;> first | exact (q : False).elim | contradiction
  | sset => unfold prim at q; split at q <;> first | exact (q : False).elim | contradiction

/-! ### lists' methods -/
theorem rep_ml {μ : Mu} {H : Hp} {st : Sto} {i : Nat} {v : V} {xs : List PV} (s0 : RepSt G μ H st) (h : Rep G μ H (.ml i) v) (e : st[i]? = some xs) : ∃ a vs, v = .ref a ∧ μ.vis[i]? = some a ∧ H a = some (.lst vs) ∧ Reps G μ H xs vs := by
  obtain ⟨a, h1, h2, h3⟩ := h
  obtain ⟨vs, q2, q3⟩ := s0.at_ i xs e h2 h3
  exact ⟨a, vs, h1, h2, q2, q3⟩
end
end Ev

/-! EvB: arguments bound to parameters. -/
namespace Ev
open PySem PySem.Spec PyProof.Rows L2
theorem lookup_zip : ∀ {ps : List Str} {us : List Value} {i : Nat} {p : Str} {u : Value}, ps.Nodup → ps[i]? = some p → us[i]? = some u → (ps.zip us).lookup p = some u
  | q :: ps, v :: us, 0, p, u, _, h1, h2 => by
    have e1 : q = p := by simpa using h1
    have e2 : v = u := by simpa using h2
    subst e1 e2
    simp [List.lookup_cons]
  | q :: ps, v :: us, i + 1, p, u, nd, h1, h2 => by
    have h1' : ps[i]? = some p := by simpa using h1
    have h2' : us[i]? = some u := by simpa using h2
    have ne : (p == q) = false := by
      rw [beq_eq_false_iff_ne]
      intro e; subst e
      exact (List.nodup_cons.mp nd).1 (List.mem_of_getElem? h1')
    rw [List.zip_cons_cons, List.lookup_cons, ne]
    exact lookup_zip (List.nodup_cons.mp nd).2 h1' h2'
  | [], _, _, _, _, _, h, _ => by simp at h
  | _ :: _, [], _, _, _, _, _, h => by simp at h
theorem filterMap_idx {ps : List Str} {zs : List Value} {g : Str → Option Value} (hl : zs.length = ps.length) (hg : ∀ (i : Nat) (p : Str) (z : Value), ps[i]? = some p → zs[i]? = some z → g p = some z) : (ps.filterMap fun n => (g n).map (n, ·)) = ps.zip zs := by
  have key : ∀ (k : Nat), k ≤ ps.length → ((ps.drop k).filterMap fun n => (g n).map (n, ·)) = (ps.drop k).zip (zs.drop k) := by
    intro k hk
    induction h : ps.length - k generalizing k with
    | zero =>
      have : ps.drop k = [] := List.drop_eq_nil_of_le (by omega)
      rw [this]; rfl
    | succ m ih =>
      have hlt : k < ps.length := by omega
      have hlt2 : k < zs.length := by omega
      rw [List.drop_eq_getElem_cons hlt, List.drop_eq_getElem_cons hlt2, List.filterMap_cons]
      rw [hg k _ _ (List.getElem?_eq_getElem hlt) (List.getElem?_eq_getElem hlt2)]
      simp only [Option.map_some, List.zip_cons_cons]
      rw [ih (k + 1) (by omega) (by omega)]
  have := key 0 (by omega)
  simpa using this
theorem filterMap_zip {ps : List Str} {us : List Value} (nd : ps.Nodup) (hl : us.length = ps.length) : (ps.filterMap fun n => ((ps.zip us).lookup n).map (n, ·)) = ps.zip us :=
  filterMap_idx hl fun i p z h1 h2 => lookup_zip nd h1 h2
theorem bind_plain {fd : FuncData} {as : List Arg} (hp : fd.params = ⟨[], as, none, [], [], none, []⟩) (hd : fd.defaults = .none) (nd : (as.map (·.arg)).Nodup) {us : List Value} (hl : us.length = as.length) :
    bindArgs fd ⟨us, []⟩ = pure ((as.map (·.arg)).zip us) := by
  have hl' : us.length = (as.map (·.arg)).length := by rw [hl, List.length_map]
  have hmiss : ((as.map (·.arg)).filter fun n => (((as.map (·.arg)).zip us).lookup n).isNone) = [] := by
    rw [List.filter_eq_nil_iff]
    intro p hp
    obtain ⟨i, hi⟩ := List.mem_iff_getElem?.mp hp
    have hlt := (List.getElem?_eq_some_iff.mp hi).1
    rw [lookup_zip nd hi (List.getElem?_eq_getElem (by rw [hl']; exact hlt))]
    simp
  have hs : seqItems? (.none) = pure none := rfl
  unfold bindArgs
  simp only [hp, hd, hs, List.map_nil, List.nil_append, List.append_nil, List.forIn_nil, pure_bind, Option.isNone_none, Bool.and_true]
  rw [if_neg (by simp [hl])]
  simp only [pure_bind, Option.getD_none, List.drop_nil, List.length_nil, Nat.sub_zero, List.zip_nil_right, List.forIn_nil, List.take_length, List.length_map, Nat.zero_sub]
  rw [show List.take as.length (List.map (fun x => x.arg) as) = List.map (fun x => x.arg) as from List.take_of_length_le (by simp)]
  rw [hmiss]
  simp [filterMap_zip nd hl']
theorem lookup_append {α : Type} {l r : List (Str × α)} {x : Str} : (l ++ r).lookup x = (match l.lookup x with | some v => some v | none => r.lookup x) := by
  induction l with
  | nil => rfl
  | cons p l ih =>
    obtain ⟨k, v⟩ := p
    rw [List.cons_append, List.lookup_cons, List.lookup_cons]
    cases x == k with
    | true => rfl
    | false => exact ih
theorem lookup_none {α : Type} {l : List (Str × α)} {x : Str} (h : x ∉ l.map (·.1)) : l.lookup x = none := by
  induction l with
  | nil => rfl
  | cons p l ih =>
    obtain ⟨k, v⟩ := p
    rw [List.map_cons, List.mem_cons, not_or] at h
    rw [List.lookup_cons]
    have : (x == k) = false := by rw [beq_eq_false_iff_ne]; exact h.1
    rw [this]; exact ih h.2
theorem kw_loop {f : (Str × Value) → List (Str × Value) × List (Str × Value) → Sem (ForInStep (List (Str × Value) × List (Str × Value)))} :
    ∀ (kw sl ex : List (Str × Value)), (∀ x s, x ∈ kw → ¬ (s.1.lookup x.1).isSome = true → f x s = pure (.yield (s.1 ++ [(x.1, x.2)], s.2))) → (kw.map (·.1)).Nodup → (∀ k ∈ kw.map (·.1), sl.lookup k = none) → forIn kw (sl, ex) f = pure (sl ++ kw, ex)
  | [], sl, ex, _, _, _ => by rw [List.forIn_nil, List.append_nil]
  | kv :: kw, sl, ex, hf, nd, hn => by
    rw [List.map_cons, List.nodup_cons] at nd
    have h0 : sl.lookup kv.1 = none := hn kv.1 List.mem_cons_self
    rw [List.forIn_cons, hf kv (sl, ex) List.mem_cons_self (by rw [h0]; simp), pure_bind]
    show forIn kw (sl ++ [(kv.1, kv.2)], ex) f = _
    rw [kw_loop kw (sl ++ [(kv.1, kv.2)]) ex (fun kv' s hm => hf kv' s (List.mem_cons_of_mem _ hm)) nd.2 fun k hk => ?_]
    · rw [List.append_assoc]; rfl
    · rw [lookup_append, hn k (List.mem_cons_of_mem _ hk)]
      refine lookup_none ?_
      intro z
      have : k = kv.1 := by simpa using z
      exact nd.1 (this ▸ hk)
theorem bind_kw {fd : FuncData} {as : List Arg} (hp : fd.params = ⟨[], as, none, [], [], none, []⟩) (hd : fd.defaults = .none) {us : List Value} {kw : List (Str × Value)} (hl : us.length ≤ as.length)
    (nd : (kw.map (·.1)).Nodup) (hin : ∀ k ∈ kw.map (·.1), k ∈ as.map (·.arg)) (hno : ∀ k ∈ kw.map (·.1), ((as.map (·.arg)).zip us).lookup k = none) (hall : ∀ p ∈ as.map (·.arg), (((as.map (·.arg)).zip us ++ kw).lookup p).isSome = true) :
    bindArgs fd ⟨us, kw⟩ = pure ((as.map (·.arg)).filterMap fun n => (((as.map (·.arg)).zip us ++ kw).lookup n).map (n, ·)) := by
  have hs : seqItems? (.none) = pure none := rfl
  have hmiss : ((as.map (·.arg)).filter fun n => ((((as.map (·.arg)).zip us) ++ kw).lookup n).isNone) = [] := by
    rw [List.filter_eq_nil_iff]
    intro p hp
    have := hall p hp
    rw [Option.isSome_iff_exists] at this
    obtain ⟨v, e⟩ := this
    rw [e]; simp
  unfold bindArgs
  simp only [hp, hd, hs, List.map_nil, List.nil_append, List.append_nil, pure_bind, Option.isNone_none, Bool.and_true]
  rw [kw_loop kw _ [] (fun x s hm hx => ?_) nd hno]
  · simp only [pure_bind]
    rw [if_neg (by simp; omega)]
    simp only [pure_bind, Option.getD_none, List.drop_nil, List.length_nil, Nat.sub_zero, List.zip_nil_right, List.forIn_nil, List.take_length, List.length_map, Nat.zero_sub]
    rw [show List.take as.length (List.map (fun x => x.arg) as) = List.map (fun x => x.arg) as from List.take_of_length_le (by simp)]
    rw [hmiss]
    simp
  · rw [if_pos (by simp [hin x.1 (List.mem_map.mpr ⟨x, hm, rfl⟩)]), if_neg hx]

/-- a def of plain parameters -/
def PlainFd (fd : FuncData) (ps : List Str) : Prop := ∃ as : List Arg, fd.params = ⟨[], as, none, [], [], none, []⟩ ∧ fd.defaults = .none ∧ as.map (·.arg) = ps ∧ ps.Nodup
theorem PlainFd.binds {K : PySem.W.Frag} {fd : FuncData} {ps : List Str} (h : PlainFd fd ps) : Binds K fd ps [] := by
  obtain ⟨as, h1, h2, rfl, h4⟩ := h
  exact .all fun us hl => bind_plain h1 h2 h4 (by rw [hl, List.length_map])
theorem pick_get {α : Type} : ∀ {idx : List Nat} {xs : List α} {i : Nat}, (∀ j ∈ idx, j < xs.length) → (pick idx xs)[i]? = idx[i]?.bind (xs[·]?)
  | [], xs, i, _ => by simp [pick]
  | j :: idx, xs, i, h => by
    have hj := h j List.mem_cons_self
    unfold pick
    rw [List.filterMap_cons, List.getElem?_eq_getElem hj]
    cases i with
    | zero => simp [List.getElem?_eq_getElem hj]
    | succ i =>
      have := pick_get (idx := idx) (xs := xs) (i := i) fun k hk => h k (List.mem_cons_of_mem _ hk)
      simpa [pick] using this
theorem pick_len {α : Type} : ∀ {idx : List Nat} {xs : List α}, (∀ j ∈ idx, j < xs.length) → (pick idx xs).length = idx.length
  | [], xs, _ => rfl
  | j :: idx, xs, h => by
    have hj := h j List.mem_cons_self
    unfold pick
    rw [List.filterMap_cons, List.getElem?_eq_getElem hj]
    have := pick_len (idx := idx) (xs := xs) fun k hk => h k (List.mem_cons_of_mem _ hk)
    simpa [pick] using this
/-- keywords in their places -/
def kwOk (np n : Nat) (ks : List Nat) : Bool := decide (n + ks.length = np) && decide ks.Nodup && (ks.all fun k => decide (n ≤ k) && decide (k < np)) && (List.range np).all fun i => decide (i < n) || decide (i ∈ ks)
theorem argI_lt {np n : Nat} {ks : List Nat} (h : kwOk np n ks = true) : ∀ j ∈ argI np n ks, j < n + ks.length := by
  intro j hj
  obtain ⟨i, hi, rfl⟩ := List.mem_map.mp hj
  have hi := List.mem_range.mp hi
  by_cases hn : i < n
  · rw [if_pos hn]; omega
  · rw [if_neg hn]
    have := List.idxOf_le_length (a := i) (l := ks)
    have hk : i ∈ ks := by
      unfold kwOk at h
      simp only [Bool.and_eq_true, decide_eq_true_eq, List.all_eq_true, Bool.or_eq_true] at h
      exact (h.2 i (List.mem_range.mpr hi)).resolve_left hn
    have := List.idxOf_lt_length_iff.mpr hk
    omega
theorem kw_bind {fd : FuncData} {ps : List Str} (P : PlainFd fd ps) {us ws : List Value} {ks : List Nat} (h : kwOk ps.length us.length ks = true) (hw : ws.length = ks.length) :
    bindArgs fd ⟨us, (ks.map fun k => ps.getD k ("" : Str)).zip ws⟩ = pure (ps.zip (pick (argI ps.length us.length ks) (us ++ ws))) := by
  obtain ⟨as, h1, h2, rfl, nd⟩ := P
  have h' := h
  unfold kwOk at h'
  simp only [Bool.and_eq_true, decide_eq_true_eq, List.all_eq_true] at h'
  obtain ⟨⟨⟨e1, e2⟩, e3⟩, _⟩ := h'
  have e0 : (as.map (·.arg)).length = as.length := List.length_map _
  have fst : (((ks.map fun k => (as.map (·.arg)).getD k ("" : Str)).zip ws).map (·.1)) = ks.map fun k => (as.map (·.arg)).getD k ("" : Str) := List.map_fst_zip (by rw [List.length_map, hw]; exact Nat.le_refl _)
  have nm : ∀ k ∈ ks, ∃ p, (as.map (·.arg))[k]? = some p ∧ (as.map (·.arg)).getD k ("" : Str) = p := fun k hk => by
    have hlt := (e3 k hk).2
    exact ⟨_, List.getElem?_eq_getElem hlt, by rw [List.getD_eq_getElem?_getD, List.getElem?_eq_getElem hlt, Option.getD_some]⟩
  have inj : ∀ {i j : Nat} {p : Str}, (as.map (·.arg))[i]? = some p → (as.map (·.arg))[j]? = some p → i = j := fun {i j p} a b => by
    obtain ⟨l1, m1⟩ := List.getElem?_eq_some_iff.mp a
    obtain ⟨l2, m2⟩ := List.getElem?_eq_some_iff.mp b
    exact (List.getElem_inj nd).mp (m1.trans m2.symm)
  have hlow : ∀ k ∈ ks, ∀ p, (as.map (·.arg))[k]? = some p → ((as.map (·.arg)).zip us).lookup p = none := fun k hk p hp => by
    refine lookup_none fun z => ?_
    obtain ⟨⟨q, u⟩, hm, rfl⟩ := List.mem_map.mp z
    obtain ⟨i, hi⟩ := List.mem_iff_getElem?.mp hm
    obtain ⟨a, b⟩ := List.getElem?_zip_eq_some.mp hi
    have := inj a hp
    subst this
    have := (List.getElem?_eq_some_iff.mp b).1
    have := (e3 i hk).1
    omega
  -- what each parameter gets
  have look : ∀ i p z, (as.map (·.arg))[i]? = some p → (pick (argI (as.map (·.arg)).length us.length ks) (us ++ ws))[i]? = some z → (((as.map (·.arg)).zip us) ++ ((ks.map fun k => (as.map (·.arg)).getD k ("" : Str)).zip ws)).lookup p = some z := fun i p z hp hz => by
    have hi := (List.getElem?_eq_some_iff.mp hp).1
    rw [pick_get (fun j hj => by have := argI_lt h j hj; rw [List.length_append, hw]; exact this)] at hz
    have hx : (argI (as.map (·.arg)).length us.length ks)[i]? = some (if i < us.length then i else us.length + ks.idxOf i) := by
      unfold argI
      rw [List.getElem?_map, List.getElem?_range hi]; rfl
    rw [hx, Option.bind_some] at hz
    rw [lookup_append]
    by_cases hn : i < us.length
    · rw [if_pos hn, List.getElem?_append_left hn] at hz
      rw [lookup_zip nd hp hz]
    · rw [if_neg hn, List.getElem?_append_right (by omega), Nat.add_sub_cancel_left] at hz
      have hk : i ∈ ks := by
        have := (List.getElem?_eq_some_iff.mp hz).1
        rw [hw] at this
        exact List.idxOf_lt_length_iff.mp this
      rw [hlow i hk p hp]
      show ((ks.map fun k => (as.map (·.arg)).getD k ("" : Str)).zip ws).lookup p = some z
      refine lookup_zip ?_ (i := ks.idxOf i) ?_ hz
      · rw [List.nodup_iff_pairwise_ne, List.pairwise_map]
        refine List.Pairwise.imp_of_mem ?_ (List.nodup_iff_pairwise_ne.mp e2)
        intro a b ha hb hab e
        obtain ⟨p1, q1, q2⟩ := nm a ha
        obtain ⟨p2, q3, q4⟩ := nm b hb
        rw [q2, q4] at e
        subst e
        exact hab (inj q1 q3)
      · have hlt := List.idxOf_lt_length_iff.mpr hk
        rw [List.getElem?_map, List.getElem?_eq_getElem hlt, List.getElem_idxOf hlt]
        obtain ⟨p1, q1, q2⟩ := nm i hk
        rw [hp] at q1; cases q1
        rw [Option.map_some, q2]
  have zl : (pick (argI (as.map (·.arg)).length us.length ks) (us ++ ws)).length = (as.map (·.arg)).length := by
    rw [pick_len (fun j hj => by have := argI_lt h j hj; rw [List.length_append, hw]; exact this)]
    unfold argI; simp
  rw [bind_kw h1 h2 (by rw [← e0]; omega) (by
      rw [fst, List.nodup_iff_pairwise_ne, List.pairwise_map]
      refine List.Pairwise.imp_of_mem ?_ (List.nodup_iff_pairwise_ne.mp e2)
      intro a b ha hb hab e
      obtain ⟨p1, q1, q2⟩ := nm a ha
      obtain ⟨p2, q3, q4⟩ := nm b hb
      rw [q2, q4] at e
      subst e
      exact hab (inj q1 q3))
    (by
      rw [fst]
      intro k hk
      obtain ⟨j, hj, rfl⟩ := List.mem_map.mp hk
      obtain ⟨p, q1, q2⟩ := nm j hj
      rw [q2]; exact List.mem_of_getElem? q1)
    (by
      rw [fst]
      intro k hk
      obtain ⟨j, hj, rfl⟩ := List.mem_map.mp hk
      obtain ⟨p, q1, q2⟩ := nm j hj
      rw [q2]; exact hlow j hj p q1)
    (by
      intro p hp
      obtain ⟨i, hi⟩ := List.mem_iff_getElem?.mp hp
      have hlt := (List.getElem?_eq_some_iff.mp hi).1
      rw [look i p _ hi (List.getElem?_eq_getElem (by rw [zl]; exact hlt))]; rfl)]
  rw [filterMap_idx zl look]
end Ev

/-! EvE: the evaluation of expressions is a reading. -/
namespace Ev
open PySem PySem.Spec PyProof.Rows L2

/-- a program: its text and where it stands -/
structure Tp where
  P : Program
  w : World
  G : Pl
  mg : Str → Option Value
  base : Heap
  gs : Gv
  gn : List Str
  fs : List Fn
  fd : Nat → FuncData
  cs : List Str
  dn : List Str
abbrev Tp.cl (T : Tp) (n : Nat) : Cl := callN T.gs T.fs n
abbrev Tp.ar (T : Tp) : Nat → Nat := fun i => match T.fs[i]? with | some g => g.np | none => 0
/-- what a def promises at depth n -/
def Tp.sp (T : Tp) (n i : Nat) : Sp := fun vs H Q E => ∃ (μ : Mu) (st : Sto) (xs : List PV), RepSt T.G μ H st ∧ Reps T.G μ H xs vs ∧ Post T.G (fun cls d _ H => E cls d H) μ H [] (callN T.gs T.fs n i xs st) (Val T.G Q)
def bltNames : List Str := ["len", "int", "abs", "tuple", "list", "all", "any", "sum", "max", "min", "sorted", "set", "range", "zip", "enumerate", "isinstance", "bool", "str", "ValueError"]
/-- an own exception class without __init__ -/
structure ExOk (T : Tp) (k : Nat) (x : Str) : Prop where
  mg : T.mg x = some (.ref (T.G.ca k))
  kp : PySem.W.keepIn T.G.K (.ref (T.G.ca k)) = true
  ex : ∃ (B newId initId : String) (bmB : List Value), ExcBaseFacts B newId initId bmB ∧ PySem.W.excIn T.G.K (T.G.ca k) bmB newId = true
  r1 : PySem.W.subIn T.G.K (.ref (T.G.ca k)) (.type "BaseException") = some true
  r2 : PySem.W.typeIn T.G.K (.ref (T.G.ca k)) = some (.type "type")
  ec : ExcC T.G.K (T.G.ca k)
  ve : PySem.W.kitOne T.G.K (.ref (T.G.ca k)) (.type "ValueError") = some true
/-- what a table of the module has at a text -/
def TabAt (G : Pl) (a : Addr) (s : List Nat) : Option PV → Prop
  | some pv => ∃ (u : Value) (v : V), PySem.W.nsIn G.K a ⟨s.toArray⟩ = some (some u) ∧ RelV v u ∧ ∀ μ H, Rep G μ H pv v
  | none => PySem.W.nsIn G.K a ⟨s.toArray⟩ = some none
/-- the module -/
structure Tp.Md (T : Tp) : Prop where
  gw : T.w = T.G.w
  nc : T.G.nc = T.cs.length
  blt : ∀ x ∈ bltNames, T.mg x = none
  gcd : T.mg "gcd" = some (.builtin "math.gcd")
  ex : ∀ (k : Nat) (x : Str), T.cs[k]? = some x → ExOk T k x
  exm : ∀ j k : Nat, j < T.cs.length → k < T.cs.length → PySem.W.exmOne T.G.K (.ref (T.G.ca j)) (.ref (T.G.ca k)) = some (decide (j = k))
  gv : ∀ (i : Nat) (x : Str), T.gn[i]? = some x → ∃ v u pv, T.gs[i]? = some pv ∧ T.mg x = some u ∧ RelV v u ∧ ∀ μ H, Rep T.G μ H pv v
  dt : ∀ (k : Nat) (x : Str), T.dn[k]? = some x → ∃ (a : Addr) (tb : List PV), T.gs[T.gn.length + k]? = some (.tup tb) ∧ T.mg x = some (.ref a) ∧ (∃ es n, KDict T.G.K T.w a es n) ∧ ∀ s : List Nat, TabAt T.G a s (lookT tb s)
structure Tp.Ok (T : Tp) (n : Nat) : Prop extends T.Md where
  fn : ∀ (i : Nat) (f : Fn), T.fs[i]? = some f → T.mg f.name = some (.ref (T.G.fa i)) ∧ PySem.W.keepIn T.G.K (.ref (T.G.fa i)) = true ∧
    FnOk T.P T.w T.G.K T.mg T.base (L2.CX T.P T.w) n (T.G.fa i) (T.fd i) (f.N.take f.np) (T.sp n i) ∧ PlainFd (T.fd i) (f.N.take f.np)
/-- a context in which an expression is evaluated -/
structure Cok (T : Tp) (n : Nat) (X : Cx) (W : WX) : Prop where
  prog : X.prog = T.P
  w : X.w = T.w
  gw : X.w = T.G.w
  K : X.K = T.G.K
  mg : X.mg = T.mg
  base : X.base = T.base
  nd : X.N.Nodup
  un : X.A.units + 65 < cLine
  takes : Takes X W
  pass : PassesOwn (model X.prog X.w) X.A X.env X.xe

/-- .. and no error is being handled -/
structure Cool (T : Tp) (n : Nat) (X : Cx) (W : WX) : Prop extends Cok T n X W where
  calm : X.calm = true
  room : Room n X.A

def tE (T : Tp) (n : Nat) (W : WX) (e : E) : TE := fun σ H Q => ∃ (μ : Mu) (env : Env) (st : Sto), RS T.G μ H env st σ ∧ Post T.G W μ H σ (evE (T.cl n) T.gs T.ar e env st) (Val T.G Q)
def tEs (T : Tp) (n : Nat) (W : WX) (es : Es) : TA := fun σ H Q => ∃ (μ : Mu) (env : Env) (st : Sto), RS T.G μ H env st σ ∧ Post T.G W μ H σ (evEs (T.cl n) T.gs T.ar es env st) (fun xs μ st H => ∀ vs, Reps T.G μ H xs vs → Q vs H)
/-- an expression as a test -/
def tT (T : Tp) (n : Nat) (W : WX) (e : E) : TT := fun σ H Q => ∃ (μ : Mu) (env : Env) (st : Sto), RS T.G μ H env st σ ∧ Post T.G W μ H σ ((evE (T.cl n) T.gs T.ar e env st).bind fun x st => toR (truth st x) st) (fun b μ st H => Q b H)

theorem PE.imp {X : Cx} {e : Expr} {t t' : TE} (h : PE X e t) (k : ∀ σ H Q, t' σ H Q → t σ H Q) : PE X e t' := ⟨fun pins s σ H Q I q => h.run pins s σ H Q I (k σ H Q q)⟩
theorem PT.imp {X : Cx} {e : Expr} {t t' : TT} (h : PT X e t) (k : ∀ σ H Q, t' σ H Q → t σ H Q) : PT X e t' := ⟨fun pins s σ H Q I q => h.run pins s σ H Q I (k σ H Q q)⟩
theorem PW.imp {X : Cx} {e : Expr} {t t' : TT} (h : PW X e t) (k : ∀ σ H Q, t' σ H Q → t σ H Q) : PW X e t' := ⟨fun wh pins s σ H Q I q => h.run wh pins s σ H Q I (k σ H Q q)⟩
theorem PA.imp {X : Cx} {e : List Expr} {t t' : TA} (h : PA X e t) (k : ∀ σ H Q, t' σ H Q → t σ H Q) : PA X e t' := ⟨fun pos pins s σ H Q I q => h.run pos pins s σ H Q I (k σ H Q q)⟩

section
variable {T : Tp} {n : Nat} {X : Cx} {W : WX} {pos : Pos}
/-- two expressions in a row -/
theorem two {a b : E} {σ : L2.St} {H : Hp} {μ : Mu} {env : Env} {st : Sto} {α : Type} {k : PV → PV → Sto → R α} {Q : α → Mu → Sto → Hp → Prop} (rs : RS T.G μ H env st σ)
    (p : Post T.G W μ H σ ((evE (T.cl n) T.gs T.ar a env st).bind fun x st => (evE (T.cl n) T.gs T.ar b env st).bind fun y st => k x y st) Q) :
    tE T n W a σ H fun v H1 => tE T n W b σ H1 fun u H2 => ∃ (μ : Mu) (st : Sto) (px py : PV), RS T.G μ H2 env st σ ∧ Rep T.G μ H2 px v ∧ Rep T.G μ H2 py u ∧ Post T.G W μ H2 σ (k px py st) Q :=
  ⟨μ, env, st, rs, p.bind.mono fun x μ1 st1 H1 _ e1 s1 p1 v rv => ⟨μ1, env, st1, rs.mono e1 s1, p1.bind.mono fun y μ2 st2 H2 _ e2 s2 p2 u ru => ⟨μ2, st2, x, y, (rs.mono e1 s1).mono e2 s2, rv.mono e2, ru, p2⟩⟩⟩
theorem one {a : E} {σ : L2.St} {H : Hp} {μ : Mu} {env : Env} {st : Sto} {α : Type} {k : PV → Sto → R α} {Q : α → Mu → Sto → Hp → Prop} (rs : RS T.G μ H env st σ)
    (p : Post T.G W μ H σ ((evE (T.cl n) T.gs T.ar a env st).bind fun x st => k x st) Q) :
    tE T n W a σ H fun v H1 => ∃ (μ : Mu) (st : Sto) (px : PV), RS T.G μ H1 env st σ ∧ Rep T.G μ H1 px v ∧ Post T.G W μ H1 σ (k px st) Q :=
  ⟨μ, env, st, rs, p.bind.mono fun x μ1 st1 H1 _ e1 s1 p1 v rv => ⟨μ1, st1, x, rs.mono e1 s1, rv, p1⟩⟩
theorem many {es : Es} {σ : L2.St} {H : Hp} {μ : Mu} {env : Env} {st : Sto} {α : Type} {k : List PV → Sto → R α} {Q : α → Mu → Sto → Hp → Prop} (rs : RS T.G μ H env st σ)
    (p : Post T.G W μ H σ ((evEs (T.cl n) T.gs T.ar es env st).bind fun xs st => k xs st) Q) :
    tEs T n W es σ H fun vs H1 => ∃ (μ : Mu) (st : Sto) (pxs : List PV), RS T.G μ H1 env st σ ∧ Reps T.G μ H1 pxs vs ∧ Post T.G W μ H1 σ (k pxs st) Q :=
  ⟨μ, env, st, rs, p.bind.mono fun x μ1 st1 H1 _ e1 s1 p1 vs rv => ⟨μ1, st1, x, rs.mono e1 s1, rv, p1⟩⟩

/-! ### names and constants -/
theorem e_var {i : Nat} {x : Str} (hN : X.N[i]? = some x) (hv : Vis X.env.scope x) (hd : (x == ("__debug__" : Str)) = false) (hcd : (x == ("__classdict__" : Str)) = false) : PE X (.Name x pos) (tE T n W (.var i)) :=
  PE.imp (pe_var hN hv hd hcd) fun σ H Q ⟨μ, env, st, rs, p⟩ => by
    have p : Post T.G W μ H σ (match env[i]? with
      | some (some v) => R.ok v st
      | _ => R.bad) (Val T.G Q) := by unfold evE at p; exact p
    cases e : env[i]? with
    | none => rw [e] at p; exact p.elim
    | some o => cases o with
      | none => rw [e] at p; exact p.elim
      | some x =>
        rw [e] at p
        obtain ⟨v, h1, h2⟩ := rs.env.at_ i x e
        exact ⟨v, h1, Post.ok p rs.st v h2⟩
theorem e_const {c : E} {e : Expr} {x : PV} {v : V} (h : PE X e (tC v)) (he : ∀ env st, evE (T.cl n) T.gs T.ar c env st = .ok x st) (r : ∀ μ H, Rep T.G μ H x v) : PE X e (tE T n W c) :=
  PE.imp h fun σ H Q ⟨μ, env, st, rs, p⟩ => by
    rw [he] at p
    exact Post.ok p rs.st v (r μ H)

/-! ### operators -/
theorem op2 {r : R2} {a b : E} {σ : L2.St} {H : Hp} {μ : Mu} {env : Env} {st : Sto} {k : PV → PV → Sto → R PV} {Q : VK} (rs : RS T.G μ H env st σ)
    (p : Post T.G W μ H σ ((evE (T.cl n) T.gs T.ar a env st).bind fun x st => (evE (T.cl n) T.gs T.ar b env st).bind fun y st => k x y st) (Val T.G Q))
    (h : ∀ μ H st px py v u, RS T.G μ H env st σ → Rep T.G μ H px v → Rep T.G μ H py u → Post T.G W μ H σ (k px py st) (Val T.G Q) → r v u H Q) : tOp r (tE T n W a) (tE T n W b) σ H Q :=
  ⟨μ, env, st, rs, p.bind.mono fun x μ1 st1 H1 _ e1 s1 p1 v rv => ⟨μ1, env, st1, rs.mono e1 s1, p1.bind.mono fun y μ2 st2 H2 _ e2 s2 p2 u ru => h μ2 H2 st2 x y v u ((rs.mono e1 s1).mono e2 s2) (rv.mono e2) ru p2⟩⟩
theorem e_bin {a b : Expr} {ea eb : E} {op : Op} {m : Bool} (C : Cok T n X W) (ha : PE X a (tE T n W ea)) (hb : PE X b (tE T n W eb)) : PE X (.BinOp a (bop op) b pos) (tE T n W (.bin op m ea eb)) :=
  PE.imp (pe_op (op_bin (G := T.G) C.K op m) ha hb) fun σ H Q ⟨μ, env, st, rs, p⟩ => by
    unfold evE at p
    exact op2 rs p fun μ H st px py v u rs r1 r2 q => ⟨W, σ, μ, st, px, py, rs.st, r1, r2, q⟩
theorem e_neg {a : Expr} {ea : E} (ha : PE X a (tE T n W ea)) : PE X (.UnaryOp .USub a pos) (tE T n W (.neg ea)) :=
  PE.imp (pe_un un_neg ha) fun σ H Q ⟨μ, env, st, rs, p⟩ => by
    unfold evE at p
    refine ⟨μ, env, st, rs, p.bind.mono fun x μ1 st1 H1 _ e1 s1 p1 v rv => ?_⟩
    cases x with
    | int i => cases (show v = .int i from rv); exact ⟨i, rfl, Post.ok p1 s1 _ rfl⟩
    | _ => exact p1.elim
theorem Cok.u {T : Tp} {n : Nat} {X : Cx} {W : WX} (C : Cok T n X W) : X.A.units + 65 < cLine := C.un
/-- an expression whose value is a bool -/
def Flag (T : Tp) (n : Nat) (e : E) : Prop := ∀ env st x st', evE (T.cl n) T.gs T.ar e env st = .ok x st' → ∃ b, x = .bl b
theorem t_of {a : Expr} {e : E} {t : TE} (h : PT X a (tTest t)) (k : ∀ σ H Q, tE T n W e σ H Q → t σ H Q) (f : Flag T n e) : PT X a (tT T n W e) :=
  PT.imp h fun σ H Q ⟨μ, env, st, rs, p⟩ => k σ H _ ⟨μ, env, st, rs, p.bind.mono fun x μ1 st1 H1 hx e1 s1 p1 v rv => by
    obtain ⟨b, rfl⟩ := f env st x st1 hx
    exact ⟨b, rv, Post.ok (a := b) p1 s1⟩⟩
theorem R.bind_ok {α β : Type} {r : R α} {f : α → Sto → R β} {b : β} {st : Sto} (h : r.bind f = .ok b st) : ∃ a st1, r = .ok a st1 ∧ f a st1 = .ok b st := by
  cases r with
  | ok a st1 => exact ⟨a, st1, rfl, h⟩
  | ex k a st => cases h
  | bad => cases h
theorem f_cmp {op : Cm} {a b : E} : Flag T n (.cmp op a b) := fun env st x st' h => by
  unfold evE at h
  obtain ⟨_, _, _, h⟩ := R.bind_ok h
  obtain ⟨_, _, _, h⟩ := R.bind_ok h
  obtain ⟨c, _, _, h⟩ := R.bind_ok h
  cases h; exact ⟨c, rfl⟩
theorem f_isn {g : Bool} {a : E} : Flag T n (.isn g a) := fun env st x st' h => by
  unfold evE at h
  obtain ⟨_, _, _, h⟩ := R.bind_ok h
  cases h; exact ⟨_, rfl⟩
theorem f_chain {op op' : Cm} {a b c : E} : Flag T n (.chain op op' a b c) := fun env st x st' h => by
  unfold evE at h
  obtain ⟨_, _, _, h⟩ := R.bind_ok h
  obtain ⟨_, _, _, h⟩ := R.bind_ok h
  obtain ⟨k, _, _, h⟩ := R.bind_ok h
  cases k with
  | true =>
    obtain ⟨_, _, _, h⟩ := R.bind_ok (show _ = _ from h)
    obtain ⟨c, _, _, h⟩ := R.bind_ok h
    cases h; exact ⟨c, rfl⟩
  | false => cases h; exact ⟨_, rfl⟩
theorem i_cmp {ea eb : E} {op : Cm} {σ : L2.St} {H : Hp} {Q : VK} (h : tE T n W (.cmp op ea eb) σ H Q) : tOp (rC T.G op) (tE T n W ea) (tE T n W eb) σ H Q := by
  obtain ⟨μ, env, st, rs, p⟩ := h
  unfold evE at p
  refine op2 rs p fun μ H st px py v u rs r1 r2 q => ?_
  obtain ⟨b, e, q⟩ := Post.toR q.bind rs.st
  exact ⟨μ, st, px, py, b, rs.st, r1, r2, e, Post.ok q rs.st _ rfl⟩
section
variable {a b c : Expr} {ea eb ec : E}
theorem e_cmp {op : Cm} (C : Cok T n X W) (ha : PE X a (tE T n W ea)) (hb : PE X b (tE T n W eb)) (hm : behindInMarks (cop op) b = false) : PE X (.Compare a [cop op] [b] pos) (tE T n W (.cmp op ea eb)) :=
  PE.imp (pe_cmpR (op_cm (G := T.G) C.K C.gw C.u op) ha hb hm) fun σ H Q h => i_cmp h
theorem t_cmp {op : Cm} (C : Cok T n X W) (ha : PE X a (tE T n W ea)) (hb : PE X b (tE T n W eb)) (hm : behindInMarks (cop op) b = false) : PT X (.Compare a [cop op] [b] pos) (tT T n W (.cmp op ea eb)) :=
  t_of (pt_cmpR (op_cm (G := T.G) C.K C.gw C.u op) ha hb hm) (fun σ H Q h => i_cmp h) f_cmp
theorem i_chain {op op' : Cm} {σ : L2.St} {H : Hp} {Q : VK} (h : tE T n W (.chain op op' ea eb ec) σ H Q) : tChain (rC T.G op) (rC T.G op') (tE T n W ea) (tE T n W eb) (tE T n W ec) σ H Q := by
  obtain ⟨μ, env, st, rs, p⟩ := h
  unfold evE at p
  refine ⟨μ, env, st, rs, p.bind.mono fun x μ1 st1 H1 _ e1 s1 p1 v rv => ⟨μ1, env, st1, rs.mono e1 s1, p1.bind.mono fun y μ2 st2 H2 _ e2 s2 p2 u ru => ?_⟩⟩
  have rs2 := (rs.mono e1 s1).mono e2 s2
  obtain ⟨k, e, q⟩ := Post.toR p2.bind s2
  refine ⟨μ2, st2, x, y, k, s2, rv.mono e2, ru, e, k, rfl, ?_⟩
  cases k with
  | false => rw [if_neg Bool.false_ne_true] at q ⊢; exact Post.ok q s2 _ rfl
  | true =>
    rw [if_pos rfl] at q ⊢
    refine ⟨μ2, env, st2, rs2, q.bind.mono fun z μ3 st3 H3 _ e3 s3 p3 w rw_ => ?_⟩
    obtain ⟨b, e, q⟩ := Post.toR p3.bind s3
    exact ⟨μ3, st3, y, z, b, s3, ru.mono e3, rw_, e, Post.ok q s3 _ rfl⟩
theorem e_chain {op op' : Cm} (C : Cok T n X W) (ha : PE X a (tE T n W ea)) (hb : PE X b (tE T n W eb)) (hc : PE X c (tE T n W ec)) (hm : lastMarks [cop op, cop op'] [b, c] = false) : PE X (.Compare a [cop op, cop op'] [b, c] pos) (tE T n W (.chain op op' ea eb ec)) :=
  PE.imp (pe_chain (op_cm (G := T.G) C.K C.gw C.u op) (op_cm (G := T.G) C.K C.gw C.u op') ha hb hc hm) fun σ H Q h => i_chain h
theorem t_chain {op op' : Cm} (C : Cok T n X W) (ha : PE X a (tE T n W ea)) (hb : PE X b (tE T n W eb)) (hc : PE X c (tE T n W ec)) (hm : lastMarks [cop op, cop op'] [b, c] = false) : PT X (.Compare a [cop op, cop op'] [b, c] pos) (tT T n W (.chain op op' ea eb ec)) :=
  t_of (pt_chain (op_cm (G := T.G) C.K C.gw C.u op) (op_cm (G := T.G) C.K C.gw C.u op') ha hb hc hm) (fun σ H Q h => i_chain h) f_chain
def isN : PV → Bool
  | .non => true
  | _ => false
theorem rep_non {G : Pl} {μ : Mu} {H : Hp} {x : PV} {v : V} (h : Rep G μ H x v) : decide (v = .non) = isN x := by
  cases x with
  | non => cases (show v = _ from h); rfl
  | bl _ => cases (show v = _ from h); rfl
  | int _ => cases (show v = _ from h); rfl
  | str _ => cases (show v = _ from h); rfl
  | tup _ => obtain ⟨a, _, rfl, _⟩ := h; rfl
  | pl _ => obtain ⟨a, _, rfl, _⟩ := h; rfl
  | scr _ => obtain ⟨a, _, rfl, _⟩ := h; rfl
  | ml _ => obtain ⟨a, rfl, _⟩ := h; rfl
  | fn _ => cases (show v = _ from h); rfl
  | exn => obtain ⟨a, rfl, _⟩ := h; rfl
  | dic t _ =>
    cases t
    · obtain ⟨a, _, _, rfl, _⟩ := h; rfl
    · obtain ⟨a, _, _, _, rfl, _⟩ := h; rfl
  | md _ => obtain ⟨a, rfl, _⟩ := h; rfl
theorem i_is {σ : L2.St} {H : Hp} {Q : VK} (h : tE T n W (.isn false ea) σ H Q) : tIsN (tE T n W ea) σ H Q := by
  obtain ⟨μ, env, st, rs, p⟩ := h
  unfold evE at p
  refine ⟨μ, env, st, rs, p.bind.mono fun x μ1 st1 H1 _ e1 s1 p1 v rv => ?_⟩
  refine Post.ok p1 s1 (.bl (decide (v = .non))) ?_
  rw [rep_non rv]
  cases x <;> rfl
theorem i_isnt {σ : L2.St} {H : Hp} {Q : VK} (h : tE T n W (.isn true ea) σ H Q) : tNotN (tE T n W ea) σ H Q := by
  obtain ⟨μ, env, st, rs, p⟩ := h
  unfold evE at p
  refine ⟨μ, env, st, rs, p.bind.mono fun x μ1 st1 H1 _ e1 s1 p1 v rv => ?_⟩
  refine Post.ok p1 s1 (.bl (!decide (v = .non))) ?_
  rw [rep_non rv]
  cases x <;> rfl
variable {j : Nat} {pos' : Pos}
theorem e_is (ha : PE X a (tE T n W ea)) : PE X (.Compare a [.Is] [.Constant .none j pos'] pos) (tE T n W (.isn false ea)) := PE.imp (pe_cmp (pc_isN ha)) fun σ H Q h => i_is h
theorem e_isnt (ha : PE X a (tE T n W ea)) : PE X (.Compare a [.IsNot] [.Constant .none j pos'] pos) (tE T n W (.isn true ea)) := PE.imp (pe_cmp (pc_notN ha)) fun σ H Q h => i_isnt h
theorem t_is (ha : PE X a (tE T n W ea)) : PT X (.Compare a [.Is] [.Constant .none j pos'] pos) (tT T n W (.isn false ea)) := t_of (t := tIsN (tE T n W ea)) (pt_cmp (pc_isN ha)) (fun σ H Q h => i_is h) f_isn
theorem t_isnt (ha : PE X a (tE T n W ea)) : PT X (.Compare a [.IsNot] [.Constant .none j pos'] pos) (tT T n W (.isn true ea)) := t_of (t := tNotN (tE T n W ea)) (pt_cmp (pc_notN ha)) (fun σ H Q h => i_isnt h) f_isn

/-! ### tables of the module; is True, is False; what is never reached -/
theorem e_hole {x : Expr} : PE X x (tE T n W .hole) := ⟨fun pins s σ H Q I ⟨μ, env, st, rs, p⟩ => by unfold evE at p; exact p.elim⟩
theorem t_hole {x : Expr} : PT X x (tT T n W .hole) := ⟨fun pins s σ H Q I ⟨μ, env, st, rs, p⟩ => by unfold evE at p; exact p.elim⟩
/-- the table at d -/
structure Tab (T : Tp) (X : Cx) (d : Nat) (a : Addr) (tb : List PV) : Prop where
  gs : T.gs[d]? = some (.tup tb)
  kd : ∃ es n, KDict X.K X.w a es n
  at_ : ∀ s : List Nat, TabAt T.G a s (lookT tb s)
theorem i_ind {ng : Bool} {d : Nat} {A : Addr} {tb : List PV} {es : Array DictEntry} {m : Nat} (C : Cok T n X W) (D : Tab T X d A tb) {σ : L2.St} {H : Hp} {Q : VK} (h : tE T n W (.ind ng d ea) σ H Q) : tOp (fun x y H Q => ∃ (z : Str) (r : Option Value), x = .str z ∧ y = .ref A ∧ PySem.W.nsIn X.K A z = some r ∧ Q (.bl (r.isSome != ng)) H) (tE T n W ea) (tC (.ref A)) σ H Q := by
  obtain ⟨μ, env, st, rs, p⟩ := h
  unfold evE at p
  refine ⟨μ, env, st, rs, p.bind.mono fun x μ1 st1 H1 _ e1 s1 p1 v rv => ?_⟩
  rw [D.gs] at p1
  cases x with
  | str k =>
    have p1 : Post T.G W μ1 H1 σ (R.ok (.bl ((lookT tb k).isSome != ng)) st1) (Val T.G Q) := p1
    cases (show v = .str ⟨k.toArray⟩ from rv)
    have q := D.at_ k
    show ∃ (z : Str) (r : Option Value), V.str ⟨k.toArray⟩ = .str z ∧ V.ref A = .ref A ∧ PySem.W.nsIn X.K A z = some r ∧ Q (.bl (r.isSome != ng)) H1
    rw [C.K]
    cases e : lookT tb k with
    | none =>
      rw [e] at q p1
      exact ⟨_, none, rfl, rfl, q, Post.ok p1 s1 _ rfl⟩
    | some pv =>
      rw [e] at q p1
      obtain ⟨u, v, q1, _⟩ := q
      exact ⟨_, some u, rfl, rfl, q1, Post.ok p1 s1 _ rfl⟩
  | non => exact p1.elim
  | bl _ => exact p1.elim
  | int _ => exact p1.elim
  | tup _ => exact p1.elim
  | pl _ => exact p1.elim
  | scr _ => exact p1.elim
  | ml _ => exact p1.elim
  | fn _ => exact p1.elim
  | exn => exact p1.elim
  | dic _ _ => exact p1.elim
  | md _ => exact p1.elim
theorem op_ind {ng : Bool} {A : Addr} (kd : ∃ es n, KDict X.K X.w A es n) : OpR X (compareOp (if ng then .NotIn else .In)) (fun x y H Q => ∃ (z : Str) (r : Option Value), x = .str z ∧ y = .ref A ∧ PySem.W.nsIn X.K A z = some r ∧ Q (.bl (r.isSome != ng)) H) := by
  obtain ⟨es, m, D⟩ := kd
  cases ng with
  | true =>
    intro pins s σ H x y v u Q I rx ry ⟨z, r, h1, h2, h3, h4⟩
    exact op_notIn_kd D pins s σ H x y v u Q I rx ry ⟨z, r, h1, h2, h3, by rw [Bool.bne_true] at h4; exact h4⟩
  | false =>
    intro pins s σ H x y v u Q I rx ry ⟨z, r, h1, h2, h3, h4⟩
    exact op_in_kd D pins s σ H x y v u Q I rx ry ⟨z, r, h1, h2, h3, by rw [Bool.bne_false] at h4; exact h4⟩
theorem e_ind {ng : Bool} {d : Nat} {A : Addr} {tb : List PV} (C : Cok T n X W) (D : Tab T X d A tb) (ha : PE X a (tE T n W ea)) (hb : PE X b (tC (.ref A))) (hm : behindInMarks (if ng then .NotIn else .In) b = false) : PE X (.Compare a [if ng then .NotIn else .In] [b] pos) (tE T n W (.ind ng d ea)) :=
  PE.imp (pe_cmpR (op_ind D.kd) ha hb hm) fun σ H Q h => i_ind (es := #[]) (m := 0) C D h
theorem f_ind {ng : Bool} {d : Nat} {a : E} : Flag T n (.ind ng d a) := fun env st x st' h => by
  unfold evE at h
  obtain ⟨_, _, _, h⟩ := R.bind_ok h
  split at h
  · cases h; exact ⟨_, rfl⟩
  · cases h
theorem t_ind {ng : Bool} {d : Nat} {A : Addr} {tb : List PV} (C : Cok T n X W) (D : Tab T X d A tb) (ha : PE X a (tE T n W ea)) (hb : PE X b (tC (.ref A))) (hm : behindInMarks (if ng then .NotIn else .In) b = false) : PT X (.Compare a [if ng then .NotIn else .In] [b] pos) (tT T n W (.ind ng d ea)) :=
  t_of (pt_cmpR (op_ind D.kd) ha hb hm) (fun σ H Q h => i_ind (es := #[]) (m := 0) C D h) f_ind
theorem op_isb {ng b : Bool} : OpR X (compareOp (if ng then .IsNot else .Is)) (fun x y H Q => y = .bl b ∧ ((∃ c, x = .bl c ∧ Q (.bl ((b == c) != ng)) H) ∨ (x = .non ∧ Q (.bl ng) H))) := by
  intro pins s σ H x y v u Q I rx ry ⟨h1, h2⟩
  subst h1
  cases ry
  rcases h2 with ⟨c, rfl, q⟩ | ⟨rfl, q⟩
  · cases rx
    have e : ∀ z : Bool, z = ((b == c) != ng) → EP X pins σ Q (.bool z) s := fun z e => ⟨.bl z, H, I, rfl, by rw [e]; exact q⟩
    cases ng <;> cases b <;> cases c <;> exact wpAny_pure (e _ rfl)
  · cases rx
    have e : ∀ z : Bool, z = ng → EP X pins σ Q (.bool z) s := fun z e => ⟨.bl z, H, I, rfl, by rw [e]; exact q⟩
    cases ng <;> cases b <;> exact wpAny_pure (e _ rfl)
theorem i_isb {ng b : Bool} {σ : L2.St} {H : Hp} {Q : VK} (h : tE T n W (.isb ng b ea) σ H Q) : tOp (fun x y H Q => y = .bl b ∧ ((∃ c, x = .bl c ∧ Q (.bl ((b == c) != ng)) H) ∨ (x = .non ∧ Q (.bl ng) H))) (tE T n W ea) (tC (.bl b)) σ H Q := by
  obtain ⟨μ, env, st, rs, p⟩ := h
  unfold evE at p
  refine ⟨μ, env, st, rs, p.bind.mono fun x μ1 st1 H1 _ e1 s1 p1 v rv => ?_⟩
  refine ⟨rfl, ?_⟩
  cases x with
  | bl c =>
    cases (show v = .bl c from rv)
    exact .inl ⟨c, rfl, Post.ok p1 s1 _ rfl⟩
  | non =>
    cases (show v = .non from rv)
    exact .inr ⟨rfl, Post.ok p1 s1 _ rfl⟩
  | str _ => exact p1.elim
  | int _ => exact p1.elim
  | tup _ => exact p1.elim
  | pl _ => exact p1.elim
  | scr _ => exact p1.elim
  | ml _ => exact p1.elim
  | fn _ => exact p1.elim
  | exn => exact p1.elim
  | dic _ _ => exact p1.elim
  | md _ => exact p1.elim
theorem f_isb {ng b : Bool} {a : E} : Flag T n (.isb ng b a) := fun env st x st' h => by
  unfold evE at h
  obtain ⟨_, _, _, h⟩ := R.bind_ok h
  split at h <;> cases h <;> exact ⟨_, rfl⟩
theorem e_isb {ng z : Bool} {j : Nat} {pos' : Pos} (ha : PE X a (tE T n W ea)) (hm : behindInMarks (if ng then .IsNot else .Is) (.Constant (.bool z) j pos') = false) : PE X (.Compare a [if ng then .IsNot else .Is] [.Constant (.bool z) j pos'] pos) (tE T n W (.isb ng z ea)) :=
  PE.imp (pe_cmpR op_isb ha pe_bl hm) fun σ H Q h => i_isb h
theorem t_isb {ng z : Bool} {j : Nat} {pos' : Pos} (ha : PE X a (tE T n W ea)) (hm : behindInMarks (if ng then .IsNot else .Is) (.Constant (.bool z) j pos') = false) : PT X (.Compare a [if ng then .IsNot else .Is] [.Constant (.bool z) j pos'] pos) (tT T n W (.isb ng z ea)) :=
  t_of (pt_cmpR op_isb ha pe_bl hm) (fun σ H Q h => i_isb h) f_isb

/-! ### truth -/
theorem e_not (C : Cok T n X W) (ha : PE X a (tE T n W ea)) : PE X (.UnaryOp .Not a pos) (tE T n W (.not_ ea)) :=
  PE.imp (pe_notT ha) fun σ H Q ⟨μ, env, st, rs, p⟩ => by
    unfold evE at p
    refine ⟨μ, env, st, rs, p.bind.mono fun x μ1 st1 H1 _ e1 s1 p1 v rv => ?_⟩
    obtain ⟨k, e, q⟩ := Post.toR p1.bind s1
    exact ⟨k, C.K ▸ truth_v s1 rv e, Post.ok q s1 _ rfl⟩
theorem t_not (ha : PT X a (tT T n W ea)) : PT X (.UnaryOp .Not a pos) (tT T n W (.not_ ea)) :=
  PT.imp (pt_not ha) fun σ H Q ⟨μ, env, st, rs, p⟩ => by
    refine ⟨μ, env, st, rs, ?_⟩
    have p := p.bind
    unfold evE at p
    cases h : evE (T.cl n) T.gs T.ar ea env st with
    | bad => rw [h] at p; exact p
    | ex k a st1 => rw [h] at p; exact p
    | ok x st1 =>
      rw [h] at p
      show Post T.G W μ H σ (toR (truth st1 x) st1) _
      have p : Post T.G W μ H σ ((toR (truth st1 x) st1).bind fun c st => R.ok (PV.bl (!c)) st) (fun a μ1 st1 H1 => Post T.G W μ1 H1 σ (toR (truth st1 a) st1) fun b μ st H => Q b H) := p
      cases ht : truth st1 x with
      | none => rw [ht] at p; exact p
      | some c =>
        rw [ht] at p
        intro μ' H' e s
        exact Post.ok (a := !c) (p μ' H' e s) s
/-- a test that is its value's truth -/
def plainT : Expr → Bool
  | .Name .. | .Call .. | .Subscript .. | .Attribute .. => true
  | _ => false
theorem isTrue_of {a : Expr} (h : plainT a = true) (env : PySem.Env) (whole : Sem Value) : isTrue a env whole = (do let v ← whole; standAt a.pos; holding [v] (truthy v)) := by
  cases a <;> first | rfl | cases h
theorem t_truth (C : Cok T n X W) (ha : PE X a (tE T n W ea)) (h : plainT a = true) : PT X a (tT T n W ea) :=
  PT.imp (pt_truth ha (isTrue_of h X.env)) fun σ H Q ⟨μ, env, st, rs, p⟩ => by
    refine ⟨μ, env, st, rs, p.bind.mono fun x μ1 st1 H1 _ e1 s1 p1 v rv => ?_⟩
    obtain ⟨k, e, q⟩ := Post.toR p1 s1
    exact ⟨k, C.K ▸ truth_v s1 rv e, q⟩
/-- True, False as a test -/
theorem t_lit {b : Bool} {k : Nat} {pos : Pos} : PT X (.Constant (.bool b) k pos) (tT T n W (.bl b)) :=
  PT.imp (pt_truth pe_bl fun _ => rfl) fun σ H Q ⟨μ, env, st, rs, p⟩ => by
    rw [evE] at p
    have p : Post T.G W μ H σ (R.ok b st) (fun b μ st H => Q b H) := p
    exact ⟨b, rfl, Post.ok p rs.st⟩
end
end
end Ev

/-! EvE2: and, or, displays, items, calls. -/
namespace Ev
open PySem PySem.Spec PyProof.Rows L2
def tAs (T : Tp) (n : Nat) (W : WX) (es : Es) : TE := fun σ H Q => ∃ (μ : Mu) (env : Env) (st : Sto), RS T.G μ H env st σ ∧ Post T.G W μ H σ (evAnd (T.cl n) T.gs T.ar es env st) (Val T.G Q)
def tOs (T : Tp) (n : Nat) (W : WX) (es : Es) : TE := fun σ H Q => ∃ (μ : Mu) (env : Env) (st : Sto), RS T.G μ H env st σ ∧ Post T.G W μ H σ (evOr (T.cl n) T.gs T.ar es env st) (Val T.G Q)
def tTA (T : Tp) (n : Nat) (W : WX) (es : Es) : TT := fun σ H Q => ∃ (μ : Mu) (env : Env) (st : Sto), RS T.G μ H env st σ ∧ Post T.G W μ H σ ((evAnd (T.cl n) T.gs T.ar es env st).bind fun x st => toR (truth st x) st) (fun b μ st H => Q b H)
def tTO (T : Tp) (n : Nat) (W : WX) (es : Es) : TT := fun σ H Q => ∃ (μ : Mu) (env : Env) (st : Sto), RS T.G μ H env st σ ∧ Post T.G W μ H σ ((evOr (T.cl n) T.gs T.ar es env st).bind fun x st => toR (truth st x) st) (fun b μ st H => Q b H)
section
variable {T : Tp} {n : Nat} {X : Cx} {W : WX} {pos : Pos} {a b : Expr} {rest : List Expr} {ea eb : E} {er es : Es}
theorem e_and1 (ha : PE X a (tE T n W ea)) : PE X (.BoolOp .And [a] pos) (tAs T n W (.cons ea .nil)) :=
  PE.imp (pe_one ha) fun σ H Q ⟨μ, env, st, rs, p⟩ => ⟨μ, env, st, rs, by unfold evAnd at p; exact p⟩
theorem e_or1 (ha : PE X a (tE T n W ea)) : PE X (.BoolOp .Or [a] pos) (tOs T n W (.cons ea .nil)) :=
  PE.imp (pe_one ha) fun σ H Q ⟨μ, env, st, rs, p⟩ => ⟨μ, env, st, rs, by unfold evOr at p; exact p⟩
theorem e_and2 (C : Cok T n X W) (ha : PE X a (tE T n W ea)) (hb : PE X (.BoolOp .And (b :: rest) pos) (tAs T n W (.cons eb er))) : PE X (.BoolOp .And (a :: b :: rest) pos) (tAs T n W (.cons ea (.cons eb er))) :=
  PE.imp (pe_andT ha hb) fun σ H Q ⟨μ, env, st, rs, p⟩ => by
    unfold evAnd at p
    refine ⟨μ, env, st, rs, p.bind.mono fun x μ1 st1 H1 _ e1 s1 p1 v rv => ?_⟩
    obtain ⟨k, e, q⟩ := Post.toR p1.bind s1
    refine ⟨k, C.K ▸ truth_v s1 rv e, ?_⟩
    cases k with
    | true => rw [if_pos rfl] at q ⊢; exact ⟨μ1, env, st1, rs.mono e1 s1, q⟩
    | false => rw [if_neg Bool.false_ne_true] at q ⊢; exact Post.ok q s1 v rv
theorem e_or2 (C : Cok T n X W) (ha : PE X a (tE T n W ea)) (hb : PE X (.BoolOp .Or (b :: rest) pos) (tOs T n W (.cons eb er))) : PE X (.BoolOp .Or (a :: b :: rest) pos) (tOs T n W (.cons ea (.cons eb er))) :=
  PE.imp (pe_orT ha hb) fun σ H Q ⟨μ, env, st, rs, p⟩ => by
    unfold evOr at p
    refine ⟨μ, env, st, rs, p.bind.mono fun x μ1 st1 H1 _ e1 s1 p1 v rv => ?_⟩
    obtain ⟨k, e, q⟩ := Post.toR p1.bind s1
    refine ⟨k, C.K ▸ truth_v s1 rv e, ?_⟩
    cases k with
    | false => rw [if_neg Bool.false_ne_true] at q ⊢; exact ⟨μ1, env, st1, rs.mono e1 s1, q⟩
    | true => rw [if_pos rfl] at q ⊢; exact Post.ok q s1 v rv
theorem t_and1 (ha : PT X a (tT T n W ea)) : PW X (.BoolOp .And [a] pos) (tTA T n W (.cons ea .nil)) :=
  PW.imp (pw_and1 ha) fun σ H Q ⟨μ, env, st, rs, p⟩ => ⟨μ, env, st, rs, by unfold evAnd at p; exact p⟩
theorem t_or1 (ha : PT X a (tT T n W ea)) : PW X (.BoolOp .Or [a] pos) (tTO T n W (.cons ea .nil)) :=
  PW.imp (pw_or1 ha) fun σ H Q ⟨μ, env, st, rs, p⟩ => ⟨μ, env, st, rs, by unfold evOr at p; exact p⟩
theorem t_and2 (ha : PT X a (tT T n W ea)) (hb : PW X (.BoolOp .And (b :: rest) pos) (tTA T n W (.cons eb er))) : PW X (.BoolOp .And (a :: b :: rest) pos) (tTA T n W (.cons ea (.cons eb er))) :=
  PW.imp (pw_and ha hb) fun σ H Q ⟨μ, env, st, rs, p⟩ => by
    refine ⟨μ, env, st, rs, ?_⟩
    rw [show evAnd (T.cl n) T.gs T.ar (.cons ea (.cons eb er)) env st = (evE (T.cl n) T.gs T.ar ea env st).bind fun x st => (toR (truth st x) st).bind fun c st => if c then evAnd (T.cl n) T.gs T.ar (.cons eb er) env st else .ok x st from by rw [evAnd]] at p
    cases h : evE (T.cl n) T.gs T.ar ea env st with
    | bad => rw [h] at p; exact p
    | ex k a st1 => rw [h] at p; exact p
    | ok x st1 =>
      rw [h] at p
      show Post T.G W μ H σ (toR (truth st1 x) st1) _
      have p : Post T.G W μ H σ (((toR (truth st1 x) st1).bind fun c st => if c then evAnd (T.cl n) T.gs T.ar (.cons eb er) env st else .ok x st).bind fun x st => toR (truth st x) st) (fun b μ st H => Q b H) := p
      cases ht : truth st1 x with
      | none => rw [ht] at p; exact p
      | some c =>
        rw [ht] at p
        intro μ' H' e s
        cases c with
        | true => rw [if_pos rfl]; exact ⟨μ', env, st1, rs.mono e s, Post.ext e p⟩
        | false =>
          rw [if_neg Bool.false_ne_true]
          have p : Post T.G W μ H σ (toR (truth st1 x) st1) (fun b μ st H => Q b H) := p
          rw [ht] at p
          exact p μ' H' e s
theorem t_or2 (ha : PT X a (tT T n W ea)) (hb : PW X (.BoolOp .Or (b :: rest) pos) (tTO T n W (.cons eb er))) : PW X (.BoolOp .Or (a :: b :: rest) pos) (tTO T n W (.cons ea (.cons eb er))) :=
  PW.imp (pw_or ha hb) fun σ H Q ⟨μ, env, st, rs, p⟩ => by
    refine ⟨μ, env, st, rs, ?_⟩
    rw [show evOr (T.cl n) T.gs T.ar (.cons ea (.cons eb er)) env st = (evE (T.cl n) T.gs T.ar ea env st).bind fun x st => (toR (truth st x) st).bind fun c st => if c then .ok x st else evOr (T.cl n) T.gs T.ar (.cons eb er) env st from by rw [evOr]] at p
    cases h : evE (T.cl n) T.gs T.ar ea env st with
    | bad => rw [h] at p; exact p
    | ex k a st1 => rw [h] at p; exact p
    | ok x st1 =>
      rw [h] at p
      show Post T.G W μ H σ (toR (truth st1 x) st1) _
      have p : Post T.G W μ H σ (((toR (truth st1 x) st1).bind fun c st => if c then .ok x st else evOr (T.cl n) T.gs T.ar (.cons eb er) env st).bind fun x st => toR (truth st x) st) (fun b μ st H => Q b H) := p
      cases ht : truth st1 x with
      | none => rw [ht] at p; exact p
      | some c =>
        rw [ht] at p
        intro μ' H' e s
        cases c with
        | false => rw [if_neg Bool.false_ne_true]; exact ⟨μ', env, st1, rs.mono e s, Post.ext e p⟩
        | true =>
          rw [if_pos rfl]
          have p : Post T.G W μ H σ (toR (truth st1 x) st1) (fun b μ st H => Q b H) := p
          rw [ht] at p
          exact p μ' H' e s
theorem e_and (h : PE X a (tAs T n W es)) : PE X a (tE T n W (.and_ es)) := PE.imp h fun σ H Q ⟨μ, env, st, rs, p⟩ => ⟨μ, env, st, rs, by rw [evE] at p; exact p⟩
theorem e_or (h : PE X a (tOs T n W es)) : PE X a (tE T n W (.or_ es)) := PE.imp h fun σ H Q ⟨μ, env, st, rs, p⟩ => ⟨μ, env, st, rs, by rw [evE] at p; exact p⟩
theorem t_and (h : PW X a (tTA T n W es)) : PT X a (tT T n W (.and_ es)) := PT.imp h.pt fun σ H Q ⟨μ, env, st, rs, p⟩ => ⟨μ, env, st, rs, by rw [evE] at p; exact p⟩
theorem t_or (h : PW X a (tTO T n W es)) : PT X a (tT T n W (.or_ es)) := PT.imp h.pt fun σ H Q ⟨μ, env, st, rs, p⟩ => ⟨μ, env, st, rs, by rw [evE] at p; exact p⟩
/-- a if c else b -/
theorem e_ite {c : Expr} {ec : E} (hc : PT X c (tT T n W ec)) (ha : PE X a (tE T n W ea)) (hb : PE X b (tE T n W eb)) : PE X (.IfExp c a b pos) (tE T n W (.ite ec ea eb)) :=
  PE.imp (pe_ifExp hc ha hb) fun σ H Q ⟨μ, env, st, rs, p⟩ => by
    refine ⟨μ, env, st, rs, ?_⟩
    rw [evE] at p
    cases h : evE (T.cl n) T.gs T.ar ec env st with
    | bad => rw [h] at p; exact p
    | ex k a st1 => rw [h] at p; exact p
    | ok x st1 =>
      rw [h] at p
      show Post T.G W μ H σ (toR (truth st1 x) st1) _
      have p : Post T.G W μ H σ ((toR (truth st1 x) st1).bind fun k st => if k then evE (T.cl n) T.gs T.ar ea env st else evE (T.cl n) T.gs T.ar eb env st) (Val T.G Q) := p
      cases ht : truth st1 x with
      | none => rw [ht] at p; exact p
      | some c =>
        rw [ht] at p
        intro μ' H' e s
        cases c with
        | true => rw [if_pos rfl]; exact ⟨μ', env, st1, rs.mono e s, Post.ext e p⟩
        | false => rw [if_neg Bool.false_ne_true]; exact ⟨μ', env, st1, rs.mono e s, Post.ext e p⟩

/-! ### argument lists, displays -/
def notStar : Expr → Bool
  | .Starred .. => false
  | _ => true
theorem starEach_cons {e : Expr} (h : notStar e = true) (r : List Expr) (env : PySem.Env) : starEach (e :: r) env = (false, eval e env) :: starEach r env := by
  cases e <;> first | rfl | cases h
theorem noStars {es : List Expr} (h : es.all notStar = true) (pos : Pos) (env : PySem.Env) : (backTo pos (starEach es env)).any (·.1) = false := by
  induction es with
  | nil => rfl
  | cons e r ih =>
    have h' : notStar e = true ∧ r.all notStar = true := by simpa using h
    rw [starEach_cons h'.1]
    show ((false, _) :: backTo pos (starEach r env)).any (·.1) = false
    rw [List.any_cons, ih h'.2]; rfl
theorem a_nil : PA X [] (tEs T n W .nil) := PA.imp pa_nil fun σ H Q ⟨μ, env, st, rs, p⟩ => by
  rw [evEs] at p
  exact Post.ok p rs.st [] rfl
theorem a_cons (he : ∀ x, ea ≠ .star x) (hs : notStar a = true) (ha : PE X a (tE T n W ea)) (hr : PA X rest (tEs T n W er)) : PA X (a :: rest) (tEs T n W (.cons ea er)) :=
  PA.imp (pa_cons ha hr (starEach_cons hs _ _)) fun σ H Q ⟨μ, env, st, rs, p⟩ => by
    rw [evEs.eq_3 _ _ _ _ _ _ _ (fun x h => he x h)] at p
    exact ⟨μ, env, st, rs, p.bind.mono fun x μ1 st1 H1 _ e1 s1 p1 v rv => ⟨μ1, env, st1, rs.mono e1 s1, p1.bind.mono fun xs μ2 st2 H2 _ e2 s2 p2 vs rvs => Post.ok p2 s2 _ ⟨v, vs, rfl, rv.mono e2, rvs⟩⟩⟩
theorem a_star {p : Pos} (C : Cok T n X W) (ha : PE X a (tE T n W ea)) (hr : PA X rest (tEs T n W er)) : PA X (.Starred a p :: rest) (tEs T n W (.cons (.star ea) er)) :=
  PA.imp (StX.pa_star ha hr) fun σ H Q ⟨μ, env, st, rs, p⟩ => by
    rw [evEs] at p
    refine ⟨μ, env, st, rs, p.bind.mono fun x μ1 st1 H1 _ e1 s1 p1 v rv => ?_⟩
    obtain ⟨xs, e, p1⟩ := Post.toR p1.bind s1
    obtain ⟨q, ws, rfl, q1, q2⟩ := rep_items s1 rv e
    refine ⟨q, ws, rfl, C.K ▸ q1.symm, μ1, env, st1, rs.mono e1 s1, p1.bind.mono fun ys μ2 st2 H2 _ e2 s2 p2 vs rvs => Post.ok p2 s2 _ ((q2.mono e2).append rvs)⟩
theorem e_tup {es' : List Expr} {x1 : Nat} (h : PA X es' (tEs T n W es)) : PE X (.Tuple es' x1 pos) (tE T n W (.tup es)) :=
  PE.imp (pe_tup h) fun σ H Q ⟨μ, env, st, rs, p⟩ => by
    rw [evE] at p
    exact ⟨μ, env, st, rs, p.bind.mono fun xs μ1 st1 H1 _ e1 s1 p1 vs rv => p1.mkT s1 rv⟩
theorem e_lst {m : Bool} {es' : List Expr} (h : PA X es' (tEs T n W es)) : PE X (.List es' pos) (tE T n W (.lst m es)) :=
  PE.imp (pe_lst h) fun σ H Q ⟨μ, env, st, rs, p⟩ => by
    rw [evE] at p
    exact ⟨μ, env, st, rs, p.bind.mono fun xs μ1 st1 H1 _ e1 s1 p1 vs rv => p1.mkL s1 rv⟩

/-! ### items, slices -/
def plainIx : Expr → Bool
  | .Slice .. => false
  | _ => true
theorem plainIx_of {b : Expr} (h : plainIx b = true) : PlainIx b := by
  cases b <;> first | (intro _ _; rfl) | cases h
theorem atI_eq {xs : List PV} {i : Int} : atI xs i = L2.atI xs i := rfl
theorem rep_atI {G : Pl} {μ : Mu} {H : Hp} {xs : List PV} {vs : List V} {i : Int} {x : PV} (r : Reps G μ H xs vs) (h : atI xs i = some x) : ∃ v, L2.atI vs i = some v ∧ Rep G μ H x v := by
  unfold atI at h
  obtain ⟨j, h1, h2⟩ := Option.bind_eq_some_iff.mp h
  obtain ⟨v, q1, q2⟩ := r.get h2
  refine ⟨v, ?_, q2⟩
  show (L2.ixN vs.length i).bind (fun j => vs[j]?) = some v
  rw [← r.length, show L2.ixN xs.length i = some j from h1]
  exact q1
/-- d[k] -/
def rIxD (G : Pl) : R2 := fun x y H Q => ∃ (μ : Mu) (st : Sto) (px py z : PV), RepSt G μ H st ∧ Rep G μ H px x ∧ Rep G μ H py y ∧ dAt st px py = some (some z) ∧ ∀ w, Rep G μ H z w → Q w H
theorem ix_dict {G : Pl} (hK : X.K = G.K) (hw : X.w = G.w) (hu : X.A.units + 65 < cLine) : IxR X (rIxD G) := by
  intro value slice pins s σ H x y v u Q I rx ry h hs
  obtain ⟨μ, st, px, py, z, s0, r1, r2, e, q⟩ := h
  obtain ⟨a, rfl, D⟩ := dlook hK hw I s0 r1 r2 e
  obtain rfl : v = Value.ref a := rx
  have ty : s.TypeIs (.ref a) "dict" := by
    cases D with
    | leaf h1 _ _ =>
      obtain ⟨_, _, vs, _, o, _, _, h2, h3, _⟩ := I.hok a _ h1
      exact ⟨o, h2, h3.1⟩
    | tup h1 _ _ _ _ => exact h1.typeIs
  exact tail_any ty F.slot_dict_getitem.lookup (dl_item hu I D ry fun w w' s' I' r1 r2 => ⟨w, H, I', r2, q w r1⟩) hs
theorem e_idx (C : Cok T n X W) (ha : PE X a (tE T n W ea)) (hb : PE X b (tE T n W eb)) (h : plainIx b = true) : PE X (.Subscript a b pos) (tE T n W (.idx ea eb)) :=
  PE.imp (pe_ix (IxR.or ix_list (IxR.or ix_tup (IxR.or ix_str (ix_dict (G := T.G) C.K C.gw C.un)))) ha hb (plainIx_of h)) fun σ H Q ⟨μ, env, st, rs, p⟩ => by
    rw [evE] at p
    refine op2 rs p fun μ H st px py v u rs r1 r2 q => ?_
    split at q
    · rename_i xs i e
      cases (show u = .int i from r2)
      obtain ⟨x, e2, q⟩ := Post.toR q rs.st
      obtain ⟨a, ws, rfl, q1, q2⟩ := rep_items rs.st r1 e
      obtain ⟨w, q3, q4⟩ := rep_atI q2 e2
      rw [← C.K] at q1
      exact q1.elim (fun q1 => .inl ⟨a, ws, i, w, rfl, rfl, q1, q3, q w q4⟩) fun q1 => .inr (.inl ⟨a, ws, i, w, rfl, rfl, q1, q3, q w q4⟩)
    · unfold idxS at q
      split at q
      · rename_i z i _
        cases (show v = .str ⟨z.toArray⟩ from r1)
        cases (show u = .int i from r2)
        split at q
        · rename_i hz
          obtain ⟨x, e2, q⟩ := Post.toR q rs.st
          obtain ⟨j, e3, e4⟩ := Option.bind_eq_some_iff.mp e2
          obtain ⟨c, e5, rfl⟩ := Option.map_eq_some_iff.mp e4
          refine .inr (.inr (.inl ⟨_, i, c, rfl, rfl, by rw [SX.S_len, sizeLine_eq]; exact of_decide_eq_true hz, ?_, q _ rfl⟩))
          show (L2.ixN z.length i).bind (fun j => z[j]?) = some c
          rw [show L2.ixN z.length i = some j from e3]
          exact e5
        · exact q.elim
      · obtain ⟨z, e3, q⟩ := Post.toR q rs.st
        obtain ⟨o, e4, e5⟩ := Option.bind_eq_some_iff.mp e3
        cases e5
        exact .inr (.inr (.inr ⟨_, _, _, _, z, rs.st, r1, r2, e4, fun w rw_ => q w rw_⟩))
theorem e_idxd {d : Nat} {A : Addr} {tb : List PV} (C : Cok T n X W) (D : Tab T X d A tb) (ha : PE X a (tC (.ref A))) (hb : PE X b (tE T n W eb)) (h : plainIx b = true) : PE X (.Subscript a b pos) (tE T n W (.idxd d eb)) :=
  PE.imp (pe_ix ix_kdict ha hb (plainIx_of h)) fun σ H Q ⟨μ, env, st, rs, p⟩ => by
    rw [evE] at p
    refine ⟨μ, env, st, rs, p.bind.mono fun x μ1 st1 H1 _ e1 s1 p1 v rv => ?_⟩
    rw [D.gs] at p1
    cases x with
    | str k =>
      cases (show v = .str ⟨k.toArray⟩ from rv)
      have p1 : Post T.G W μ1 H1 σ (toR (lookT tb k) st1) (Val T.G Q) := p1
      obtain ⟨pv, e2, q⟩ := Post.toR p1 s1
      have q2 := D.at_ k
      rw [e2] at q2
      obtain ⟨u, w, q3, q4, q5⟩ := q2
      obtain ⟨es, m, kd⟩ := D.kd
      exact ⟨A, ⟨k.toArray⟩, w, rfl, rfl, ⟨es, m, u, kd.at_, kd.lit, by rw [C.K]; exact q3, q4⟩, q w (q5 _ _)⟩
    | non => exact p1.elim
    | bl _ => exact p1.elim
    | int _ => exact p1.elim
    | tup _ => exact p1.elim
    | pl _ => exact p1.elim
    | scr _ => exact p1.elim
    | ml _ => exact p1.elim
    | fn _ => exact p1.elim
    | exn => exact p1.elim
    | dic _ _ => exact p1.elim
    | md _ => exact p1.elim
def tO (T : Tp) (n : Nat) (W : WX) (es : Es) : TO := fun σ H Q => ∃ (μ : Mu) (env : Env) (st : Sto), RS T.G μ H env st σ ∧ Post T.G W μ H σ (evOp (T.cl n) T.gs T.ar es env st) (fun o μ st H => Q o H)
theorem o_none : PO X none (tO T n W .nil) := ⟨fun pins s σ H Q I ⟨μ, env, st, rs, p⟩ => po_none.run pins s σ H Q I (by rw [evOp] at p; exact Post.ok (a := (none : Option Int)) p rs.st)⟩
theorem o_some (ha : PE X a (tE T n W ea)) : PO X (some a) (tO T n W (.cons ea er)) := ⟨fun pins s σ H Q I ⟨μ, env, st, rs, p⟩ => (po_some ha).run pins s σ H Q I (by
  rw [evOp] at p
  refine ⟨μ, env, st, rs, p.bind.mono fun x μ1 st1 H1 _ e1 s1 p1 v rv => ?_⟩
  cases x with
  | int i => cases (show v = .int i from rv); exact ⟨i, rfl, Post.ok (a := some i) p1 s1⟩
  | _ => exact p1.elim)⟩
theorem cut_rep {G : Pl} {μ : Mu} {H : Hp} {xs : List PV} {vs : List V} {l h : Option Int} (r : Reps G μ H xs vs) : Reps G μ H (cut xs.length (HT.sIx xs.length 0 l) (HT.sIx xs.length xs.length h) xs) (cutV vs l h) := by
  unfold cutV cut
  rw [← r.length]
  exact (r.drop _).take _
theorem e_slc {m : Bool} {lo hi : Option Expr} {el eh : Es} {p2 : Pos} (C : Cok T n X W) (ha : PE X a (tE T n W ea)) (hl : PO X lo (tO T n W el)) (hh : PO X hi (tO T n W eh)) : PE X (.Subscript a (.Slice lo hi none p2) pos) (tE T n W (.slc m ea el eh)) :=
  PE.imp (pe_slice (SlR.or sl_list (SlR.or sl_tupA sl_str)) ha hl hh) fun σ H Q ⟨μ, env, st, rs, p⟩ => by
    rw [evE] at p
    refine ⟨μ, env, st, rs, p.bind.mono fun x μ1 st1 H1 _ e1 s1 p1 v rv => ⟨μ1, env, st1, rs.mono e1 s1, p1.bind.mono fun l μ2 st2 H2 _ e2 s2 p2 => ⟨μ2, env, st2, (rs.mono e1 s1).mono e2 s2, p2.bind.mono fun h μ3 st3 H3 _ e3 s3 p3 => ?_⟩⟩⟩
    have rv := (rv.mono e2).mono e3
    have lists : ∀ xs, items st3 x = some xs → (∀ ys, x ≠ .tup ys) → Post T.G W μ3 H3 σ (mkL m (cut xs.length (HT.sIx xs.length 0 l) (HT.sIx xs.length xs.length h) xs) st3) (Val T.G Q) → rSlL X.K v l h H3 Q ∨ rSlA X.K v l h H3 Q ∨ rSlS v l h H3 Q := fun xs e hne q => by
      have key : ∃ a vs, v = .ref a ∧ SqL T.G.K H3 a vs ∧ Reps T.G μ3 H3 xs vs := by
        cases x with
        | tup ys => exact absurd rfl (hne ys)
        | scr ys =>
          have ey : ys = xs := by simpa [items] using e
          subst ey
          exact scr_sql rv
        | pl ys =>
          obtain ⟨a, vs, q1, q2, q3⟩ := rep_litems s3 rv (show litems st3 (.pl ys) = some xs from e)
          exact ⟨a, vs, q1, SqL.of q2, q3⟩
        | ml i =>
          obtain ⟨a, vs, q1, q2, q3⟩ := rep_litems s3 rv (show litems st3 (.ml i) = some xs from e)
          exact ⟨a, vs, q1, SqL.of q2, q3⟩
        | _ => cases e
      obtain ⟨a, vs, rfl, q2, q3⟩ := key
      exact .inl ⟨a, vs, rfl, C.K ▸ q2, (q.mkL s3 (cut_rep q3)).2⟩
    cases x with
    | tup xs =>
      obtain ⟨a, vs, rfl, q1, q2⟩ := rv
      have k := Post.mkT (show Post T.G W μ3 H3 σ (mkT (cut xs.length (HT.sIx xs.length 0 l) (HT.sIx xs.length xs.length h) xs) st3) (Val T.G Q) from p3) s3 (cut_rep q2)
      refine .inr (.inl ⟨a, vs, rfl, C.K ▸ q1, fun hw => ?_, fun _ => k.2⟩)
      have p4 : Post T.G W μ3 H3 σ (mkT (cut xs.length (HT.sIx xs.length 0 l) (HT.sIx xs.length xs.length h) xs) st3) (Val T.G Q) := p3
      have ec : cut xs.length (HT.sIx xs.length 0 l) (HT.sIx xs.length xs.length h) xs = xs := by
        rw [q2.length, hw.1, hw.2]
        unfold cut
        rw [List.drop_zero, Nat.sub_zero, ← q2.length, List.take_length]
      rw [ec] at p4
      unfold mkT lineOk at p4
      by_cases hb : xs.length ≤ 16777216
      · rw [if_pos (decide_eq_true hb)] at p4
        exact Post.ok p4 s3 _ ⟨a, vs, rfl, q1, q2⟩
      · rw [if_neg (by simpa using hb)] at p4; exact p4.elim
    | _ =>
      dsimp only at p3
      split at p3
      · rename_i xs e
        exact lists xs e (fun ys z => by cases z) p3
      · first
        | exact p3.elim
        | (unfold slcS at p3
           dsimp only at p3
           split at p3
           · rename_i hz
             cases (show v = .str _ from rv)
             exact .inr (.inr ⟨_, rfl, by rw [SX.S_len, sizeLine_eq]; exact of_decide_eq_true hz, Post.ok p3 s3 _ (by unfold cutS; rw [SX.S_len]; rfl)⟩)
           · exact p3.elim)

/-! ### calls -/
theorem Post.fix {G : Pl} {μ : Mu} {H : Hp} {σ : L2.St} {α : Type} {r : R α} {Q : α → Mu → Sto → Hp → Prop} (p : Post G W μ H σ r Q) : Post G (fun cls d _ H => W cls d σ H) μ H [] r Q := by
  cases r with
  | ok a st => exact p
  | ex k a st => exact p
  | bad => exact p
theorem e_call0 {f : Nat} {fn : Fn} {p : Pos} (K : T.Ok n) (C : Cool T n X W) (hf : T.fs[f]? = some fn) (hg : Gl X fn.name) (hd : (fn.name == ("__debug__" : Str)) = false) : PE X (.Call (.Name fn.name p) [] [] pos) (tE T n W (.call f .nil)) := by
  obtain ⟨h1, h2, F, h4⟩ := K.fn f fn hf
  refine ⟨fun pins s σ H Q I ⟨μ, env, st, rs, q⟩ => ?_⟩
  refine wpAny_Call_Name_kw (ld_glob I hg (by rw [C.mg]; exact h1) ?_ hd)
  refine PySem.W.callWith_K0 I.kIn (by rw [C.K]; exact h2) ?_
  have F' : FnOk X.prog X.w X.K X.mg X.base (L2.CX X.prog X.w) n (T.G.fa f) (T.fd f) (fn.N.take fn.np) (T.sp n f) := by rw [C.prog, C.w, C.K, C.mg, C.base]; exact F
  refine run_fnS (E := WE W) (us := []) (vs := []) F' C.room h4.binds (passAt C.takes σ) I .nil ?_
  rw [evE, evEs] at q
  exact ⟨μ, st, [], rs.st, rfl, Post.fix q⟩
theorem e_call {f : Nat} {fn : Fn} {p : Pos} (K : T.Ok n) (C : Cool T n X W) (hf : T.fs[f]? = some fn) (hg : Gl X fn.name) (hd : (fn.name == ("__debug__" : Str)) = false) (hs : notStar a = true) (hr : rest.all notStar = true)
    (ha : PA X (a :: rest) (tEs T n W es)) : PE X (.Call (.Name fn.name p) (a :: rest) [] pos) (tE T n W (.call f es)) := by
  obtain ⟨h1, h2, F, h4⟩ := K.fn f fn hf
  have F' : FnOk X.prog X.w X.K X.mg X.base (L2.CX X.prog X.w) n (T.G.fa f) (T.fd f) (fn.N.take fn.np) (T.sp n f) := by rw [C.prog, C.w, C.K, C.mg, C.base]; exact F
  refine PE.imp (pe_callS (E := WE W) F' C.room hg (by rw [C.mg]; exact h1) (by rw [C.K]; exact h2) h4.binds (fun σ => passAt C.takes σ) ha hd (starEach_cons hs _ _) (noStars hr _ _)) fun σ H Q ⟨μ, env, st, rs, q⟩ => ?_
  rw [evE] at q
  exact ⟨μ, env, st, rs, q.bind.mono fun xs μ1 st1 H1 _ e1 s1 p1 vs rv => ⟨μ1, st1, xs, s1, rv, Post.fix p1⟩⟩

/-! ### built-in functions -/
def prName : Pr → Str
 | .str => "str" | .len => "len" | .int => "int" | .abs => "abs" | .gcd => "gcd" | .tuple => "tuple" | .list => "list" | .all => "all" | .any => "any" | .sum => "sum" | .max => "max" | .min => "min" | .max2 => "max" | .min2 => "min" | .sorted => "sorted" | .set => "set" | .sset => "sorted"
theorem boot_pr (p : Pr) (h : p ≠ .gcd) : bootBuiltins (prName p) = some (bfn p) := by
  cases p <;> first | exact absurd rfl h | decide +kernel
theorem pr_in (p : Pr) (h : p ≠ .gcd) : prName p ∈ bltNames := by
  cases p <;> first | exact absurd rfl h | decide +kernel
theorem e_prim {pr : Pr} {m : Bool} {p : Pos} (K : T.Md) (C : Cool T n X W) (hg : Gl X (prName pr)) (hs : notStar a = true) (hr : rest.all notStar = true) (ha : PA X (a :: rest) (tEs T n W es)) :
    PE X (.Call (.Name (prName pr) p) (a :: rest) [] pos) (tE T n W (.prim pr m es)) := by
  have hc := cr_prim (G := T.G) C.K C.calm C.toCok.u pr m
  have hd : (prName pr == ("__debug__" : Str)) = false := by cases pr <;> decide +kernel
  have hn : prName pr ≠ "__name__" := by cases pr <;> decide +kernel
  have key : PE X (.Call (.Name (prName pr) p) (a :: rest) [] pos) (tCB (rP T.G pr m) (tEs T n W es)) := by
    by_cases hp : pr = .gcd
    · subst hp
      exact pe_callBfun hc hg (by rw [C.mg]; exact K.gcd) ha hd (starEach_cons hs _ _) (noStars hr _ _)
    · have hm : X.mg (prName pr) = none := by rw [C.mg]; exact K.blt _ (pr_in pr hp)
      have hv := boot_pr pr hp
      have e : (∃ i, bfn pr = .builtin i) ∨ ∃ i, bfn pr = .type i := by cases pr <;> first | exact .inl ⟨_, rfl⟩ | exact .inr ⟨_, rfl⟩
      rcases e with ⟨i, e⟩ | ⟨i, e⟩
      · rw [e] at hc hv
        exact pe_callB hc hg hm hv ha hn hd (starEach_cons hs _ _) (noStars hr _ _)
      · rw [e] at hc hv
        exact pe_callTy hc hg hm hv ha hn hd (starEach_cons hs _ _) (noStars hr _ _)
  refine PE.imp key fun σ H Q ⟨μ, env, st, rs, q⟩ => ?_
  rw [evE] at q
  exact ⟨μ, env, st, rs, q.bind.mono fun xs μ1 st1 H1 _ e1 s1 p1 vs rv => ⟨W, σ, μ1, st1, xs, s1, rv, p1⟩⟩
end
end Ev

/-! EvW: how many different numbers. -/
namespace Ev
open PySem PySem.Spec PyProof.Rows L2
theorem met_all (ns : List Int) : PyProof.Rows.firstMet (fun i => ns.getD i 0) ns.length = ns.foldl PyProof.Rows.step_dedup [] := by
  have e : (List.range ns.length).map (fun i => ns.getD i 0) = ns := by
    apply List.ext_getElem
    · simp
    · intro i h1 h2
      simp [List.getD_eq_getElem?_getD, h2]
  show ((List.range ns.length).map fun i => ns.getD i 0).foldl PyProof.Rows.step_dedup [] = _
  rw [e]
theorem met_le : ∀ (ns acc : List Int), (ns.foldl PyProof.Rows.step_dedup acc).length ≤ acc.length + ns.length
  | [], acc => by simp
  | n :: ns, acc => by
    rw [List.foldl_cons]
    have h := met_le ns (PyProof.Rows.step_dedup acc n)
    have k : (PyProof.Rows.step_dedup acc n).length ≤ acc.length + 1 := by
      unfold PyProof.Rows.step_dedup
      split <;> simp
    rw [List.length_cons]
    omega
/-- len(set(list of ints)) -/
def tLens (K : PySem.W.Frag) (ta : TE) : TE := fun σ H Q => ta σ H fun x H1 => ∃ (l : Addr) (ns : List Int), x = .ref l ∧ SqL K H1 l (ns.map V.int) ∧ ns.length ≤ 4000 ∧ Q (.int (((ns.foldl PyProof.Rows.step_dedup []).length : Nat) : Int)) H1
theorem pe_lens {X : Cx} {a : Expr} {ta : TE} {p p2 q pos : Pos} (hg : Gl X "len") (hm : X.mg "len" = none) (hg2 : Gl X "set") (hm2 : X.mg "set" = none) (ha : PE X a ta) (hc : X.calm = true) (na : starEach [a] X.env = (false, eval a X.env) :: starEach [] X.env) :
    PE X (.Call (.Name "len" p) [.Call (.Name "set" p2) [a] [] q] [] pos) (tLens X.K ta) := by
  refine ⟨fun pins s σ H Q I h => Call_ (ld_blt I hg hm boot_len (PyProof.Rows.callWith_builtin1 (PyProof.Rows.args_cons (Call_ (ld_blt I hg2 hm2 boot_set ?_)) rfl) rfl rfl))⟩
  refine PyProof.Rows.callWith_type1 (PyProof.Rows.args_cons (thn (ha.run pins s σ H _ I h) fun v s1 ⟨x, H1, I1, r1, l, ns, ex, sq, few, q1⟩ => PyProof.Rows.args_nil ?_) na) na rfl
  subst ex
  cases r1
  obtain ⟨its, r, pl, hz⟩ := I1.list sq
  have size : its.toArray.size = ns.length := by rw [List.size_toArray, ← r.length, List.length_map]
  refine call_set_list (I1.ok.hd hc) pl.isList (by simpa using RZ.intsAre_vals r) (by rw [size]; unfold scanBound; omega) fun h' tk made kp => PyProof.Rows.args_nil ?_
  rw [size, met_all] at made
  obtain ⟨o, es, ep, t, ho, hex, hd, _, _, _, hf, hn⟩ := made
  have few2 := met_le ns []
  rw [List.length_nil, Nat.zero_add] at few2
  have I2 : Inv X pins σ H1 { s1 with heap := h', toks := tk } := I1.kept fun b o e => kp b o (Heap.lt_size e) e
  exact call_len_set ho hex hd hf (by rw [hn]; omega) ⟨.int _, H1, I2.tok _, ⟨_, by rw [hn]⟩, q1⟩
section
variable {T : Tp} {n : Nat} {X : Cx} {W : WX} {a : Expr} {ea : E} {p p2 q pos : Pos}
theorem e_lens (K : T.Md) (C : Cool T n X W) (hg : Gl X "len") (hg2 : Gl X "set") (hs : notStar a = true) (ha : PE X a (tE T n W ea)) :
    PE X (.Call (.Name "len" p) [.Call (.Name "set" p2) [a] [] q] [] pos) (tE T n W (.lens ea)) :=
  PE.imp (pe_lens hg (by rw [C.mg]; exact K.blt _ (by decide +kernel)) hg2 (by rw [C.mg]; exact K.blt _ (by decide +kernel)) ha C.calm (starEach_cons hs _ _)) fun σ H Q ⟨μ, env, st, rs, r⟩ => by
    rw [evE] at r
    rw [C.K]
    refine ⟨μ, env, st, rs, r.bind.mono fun x μ1 st1 H1 hx e1 s1 p1 v rv => ?_⟩
    split at p1
    · rename_i ns en
      split at p1
      · rename_i few
        obtain ⟨xs, z1, z2⟩ := Option.bind_eq_some_iff.mp en
        obtain ⟨l, ws, rfl, q1, q2⟩ := rep_litems s1 rv z1
        rw [reps_ints z2 q2] at q1
        exact ⟨l, ns, rfl, SqL.of q1, of_decide_eq_true few, Post.ok p1 s1 _ rfl⟩
      · exact (p1 : False).elim
    · exact (p1 : False).elim
end
end Ev

/-! EvSet: sorted(set(xs)), xs a list of tuples of whole numbers. -/
namespace Ev
open PySem PySem.Spec PyProof.Rows L2
theorem lexLt_lt : ∀ (xs ys : List Int), Ev.lexLt xs ys = decide (xs < ys)
  | [], [] => rfl
  | [], _ :: _ => by simp [Ev.lexLt]
  | _ :: _, [] => by simp [Ev.lexLt]
  | x :: a, y :: b => by
    rw [Ev.lexLt]
    by_cases h : x = y
    · subst h
      rw [if_pos rfl, lexLt_lt a b]
      simp [List.cons_lt_cons_iff]
    · rw [if_neg h]
      simp [List.cons_lt_cons_iff, h]
theorem lexLt_irr (x : List Int) : Ev.lexLt x x = false := by rw [lexLt_lt]; simp
theorem lexLt_tr {x y z : List Int} (h : Ev.lexLt x y = true) (k : Ev.lexLt y z = true) : Ev.lexLt x z = true := by
  rw [lexLt_lt, decide_eq_true_eq] at *
  exact List.lt_trans h k
theorem lexLt_tri {x y : List Int} (h : Ev.lexLt x y = false) (n : ¬ x = y) : Ev.lexLt y x = true := by
  rw [lexLt_lt] at *
  simp only [decide_eq_false_iff_not, decide_eq_true_eq] at *
  rcases Std.lt_trichotomy x y with q | q | q
  · exact absurd q h
  · exact absurd q n
  · exact q
theorem insI_mem (x y : List Int) : ∀ l : List (List Int), y ∈ insI x l ↔ y = x ∨ y ∈ l
  | [] => by simp [insI]
  | z :: l => by
    rw [insI]
    by_cases h : x = z
    · subst h; rw [if_pos rfl]; simp
    · rw [if_neg h]
      by_cases k : Ev.lexLt x z = true
      · rw [if_pos k]; simp
      · rw [if_neg k, List.mem_cons, insI_mem x y l, List.mem_cons]
        constructor
        · rintro (q | q | q)
          · exact .inr (.inl q)
          · exact .inl q
          · exact .inr (.inr q)
        · rintro (q | q | q)
          · exact .inr (.inl q)
          · exact .inl q
          · exact .inr (.inr q)
theorem insI_pw {x : List Int} : ∀ {l : List (List Int)}, l.Pairwise (fun a b => Ev.lexLt a b = true) → (insI x l).Pairwise (fun a b => Ev.lexLt a b = true)
  | [], _ => by simp [insI]
  | z :: l, p => by
    obtain ⟨p1, p2⟩ := List.pairwise_cons.mp p
    rw [insI]
    by_cases h : x = z
    · rw [if_pos h]; exact p
    · rw [if_neg h]
      by_cases k : Ev.lexLt x z = true
      · rw [if_pos k]
        refine List.pairwise_cons.mpr ⟨fun y hy => ?_, p⟩
        rcases List.mem_cons.mp hy with rfl | hy
        · exact k
        · exact lexLt_tr k (p1 y hy)
      · rw [if_neg k]
        refine List.pairwise_cons.mpr ⟨fun y hy => ?_, insI_pw p2⟩
        rcases (insI_mem x y l).mp hy with rfl | hy
        · exact lexLt_tri (Bool.eq_false_iff.mpr k) h
        · exact p1 y hy
theorem sortI_mem (y : List Int) : ∀ l : List (List Int), y ∈ sortI l ↔ y ∈ l
  | [] => by simp [sortI]
  | x :: l => by rw [sortI, insI_mem, sortI_mem y l, List.mem_cons]
theorem sortI_pw : ∀ l : List (List Int), (sortI l).Pairwise (fun a b => Ev.lexLt a b = true)
  | [] => .nil
  | _ :: l => insI_pw (sortI_pw l)
theorem pw_uniq : ∀ {l m : List (List Int)}, l.Pairwise (fun a b => Ev.lexLt a b = true) → m.Pairwise (fun a b => Ev.lexLt a b = true) → (∀ x, x ∈ l ↔ x ∈ m) → l = m
  | [], [], _, _, _ => rfl
  | [], y :: m, _, _, h => by have := (h y).mpr List.mem_cons_self; cases this
  | x :: l, [], _, _, h => by have := (h x).mp List.mem_cons_self; cases this
  | x :: l, y :: m, p, q, h => by
    obtain ⟨p1, p2⟩ := List.pairwise_cons.mp p
    obtain ⟨q1, q2⟩ := List.pairwise_cons.mp q
    have e : x = y := by
      rcases List.mem_cons.mp ((h x).mp List.mem_cons_self) with e | hx
      · exact e
      · rcases List.mem_cons.mp ((h y).mpr List.mem_cons_self) with e | hy
        · exact e.symm
        · have a := lexLt_tr (p1 y hy) (q1 x hx)
          rw [lexLt_irr] at a; cases a
    subst e
    congr 1
    refine pw_uniq p2 q2 fun z => ⟨fun hz => ?_, fun hz => ?_⟩
    · rcases List.mem_cons.mp ((h z).mp (List.mem_cons_of_mem _ hz)) with e | k
      · subst e; have a := p1 z hz; rw [lexLt_irr] at a; cases a
      · exact k
    · rcases List.mem_cons.mp ((h z).mpr (List.mem_cons_of_mem _ hz)) with e | k
      · subst e; have a := q1 z hz; rw [lexLt_irr] at a; cases a
      · exact k
theorem dataLt_rows (xs ys : List Int) : PySem.W.dataLt (.tuple (xs.map .int)) (.tuple (ys.map .int)) = Ev.lexLt xs ys := by
  rw [lexLt_lt, ← PySem.W.dataLt_ints xs ys]; rfl
end Ev
namespace Ev
open PySem PySem.Spec PyProof.Rows L2
section
variable {P : Program} {w : World} {A : Around} {E : Value → Shared → Prop} {s : Shared}
theorem reads_ints {h : Heap} : ∀ {k : List Int} {vs : List Value}, IntsAre vs k → ReadsAll h vs (k.map .int) []
  | _, _, .nil => .nil
  | _, _, .cons n t r => .cons (as := []) (bs := []) (.int n t) (reads_ints r)
theorem reads_tup {h : Heap} {k : List Int} {b : Addr} (x : IsT P w h k b) : Reads h (.ref b) (.tuple (k.map .int)) [] := by
  obtain ⟨o, items, n, h1, h2, h3, h4⟩ := x
  exact .tuple h1 h2 h3 (reads_ints (ints_of_items h4))
abbrev encR : Addr × List Int → PyData := fun q => .tuple (q.2.map .int)
/-- sorted of a set of tuples of whole numbers -/
theorem sorted_setD {a : Addr} {L : List (Addr × List Int)} {es : Array (Int × Value)} {ep : Nat} {t : SetTable} {Q : Value → Shared → Prop} (R : SetTR P w s.heap a L es ep t) (hh : A.handled = none)
    (hne : ∀ p ∈ L, p.2 ≠ []) (hu : A.units + 10 < cLine)
    (hQ : ∀ s' p (out : Array Value) (c : Nat) (L' : List (Addr × List Int)), (∀ b o, s.heap.get? b = some o → s'.heap.get? b = some o) → s'.gens = s.gens → s'.os = s.os → s.heap.objs.size ≤ p →
      s'.heap.get? p = some (seqObj "list" out c) → out.toList = L'.map (fun q => Value.ref q.1) → L'.Perm L → L'.Pairwise (fun q r => Ev.lexLt r.2 q.2 = false) → Q (.ref p) s') :
    wpAny (model P w) A (call (.builtin "sorted") [.ref a]) Q E s := by
  obtain ⟨o, ho, hex, hd⟩ := R.ob
  have hsz := R.size
  have hfew := R.few
  refine Calls.call_function_entry kind_sorted plain_sorted entry_sorted (args_sorted1 _) ?_
  unfold Builtin.«sorted»
  refine wpAny_bind (m := checkCount "sorted" 1 1 _) (wpAny_pure ?_)
  refine wpAny_bind (collect_set (A := A.in1) hh ⟨o, ho, hex.1, hd⟩ R.fits (by unfold scanBound; omega) R.tab.ris R.led fun s1 vs k1 hz g1 o1 pm => ?_)
  have hes : es.toList.map (·.2) = L.map fun q => Value.ref q.1 := by
    rw [R.rows]
    unfold rowsOf
    rw [List.map_map] <;> rfl
  rw [hes] at pm
  have ord : ∀ vs : List Value, (∀ v ∈ vs, ∃ q ∈ L, v = Value.ref q.1) → ∃ L1 : List (Addr × List Int), vs = L1.map (fun q => Value.ref q.1) ∧ ∀ q ∈ L1, q ∈ L := by
    intro vs
    induction vs with
    | nil => intro _; exact ⟨[], rfl, fun q hq => (by cases hq)⟩
    | cons v vs ih =>
      intro hv
      obtain ⟨q, hq, e⟩ := hv v List.mem_cons_self
      obtain ⟨L1, e1, hs⟩ := ih fun u hu => hv u (List.mem_cons_of_mem _ hu)
      refine ⟨q :: L1, by rw [List.map_cons, e, e1], fun r hr => ?_⟩
      rcases List.mem_cons.mp hr with z | z
      · rw [z]; exact hq
      · exact hs r z
  have one : ∀ q ∈ L, ∀ r ∈ L, q.1 = r.1 → q = r := fun q hq r hr e => by
    have a1 := R.tup q hq
    have a2 := R.tup r hr
    rw [e] at a1
    exact Prod.ext e (a1.inj a2)
  have perm_of : ∀ L1 : List (Addr × List Int), (∀ q ∈ L1, q ∈ L) → (L1.map (fun q => Value.ref q.1)).Perm (L.map fun q => Value.ref q.1) → L1.Perm L := by
    intro L1 hs pm1
    have nL : L.Nodup := nodup_of_map R.nd
    have nref : (L.map fun q => Value.ref q.1).Nodup := by
      refine List.pairwise_map.mpr (List.Pairwise.imp_of_mem (fun {q r} hq hr hne e => ?_) nL)
      injection e with e
      exact hne (one q hq r hr e)
    have n1 : L1.Nodup := nodup_of_map (pm1.nodup_iff.mpr nref)
    refine (List.perm_ext_iff_of_nodup n1 nL).mpr fun q => ⟨hs q, fun hq => ?_⟩
    have hm : Value.ref q.1 ∈ L1.map (fun q => Value.ref q.1) := pm1.mem_iff.mpr (List.mem_map.mpr ⟨q, hq, rfl⟩)
    obtain ⟨r, hr, e⟩ := List.mem_map.mp hm
    injection e with e
    rw [← one r (hs r hr) q hq e]
    exact hr
  have hvl : vs.length < 64 := by rw [pm.length_eq, List.length_map]; exact hfew
  obtain ⟨L1, e1, hs1⟩ := ord vs fun v hv => by
    obtain ⟨q, hq, e⟩ := List.mem_map.mp (pm.mem_iff.mp hv)
    exact ⟨q, hq, e.symm⟩
  have p1 : L1.Perm L := perm_of L1 hs1 (by rw [← e1]; exact pm)
  refine wpAny_bind (wpAny_newList ?_ (by rw [sizeLine_eq]; omega))
  have hoL : (s1.heap.push (seqObj "list" vs.toArray 0)).get? s1.heap.objs.size = some (seqObj "list" vs.toArray 0) := Heap.get?_push_size _ rfl
  have rd : ∀ q ∈ L, Reads (s1.heap.push (seqObj "list" vs.toArray 0)) (.ref q.1) (encR q) [] := fun q hq => reads_tup (P := P) (w := w) (isT_keep (R.tup q hq) fun b u e => Heap.get?_push_of_some _ (k1 b u e))
  have ea : ∀ l : List (Addr × List Int), PySem.W.EachIs (fun v (b : Addr × List Int) => v = Value.ref b.1) (l.map fun q => Value.ref q.1) l := fun l => by
    induction l with
    | nil => exact .nil
    | cons x l ih => exact .cons rfl ih
  have er : ∀ l : List (Addr × List Int), (∀ q ∈ l, q ∈ L) → PySem.W.EachIs (fun v (b : Addr × List Int) => ∃ as, Reads (s1.heap.push (seqObj "list" vs.toArray 0)) v (encR b) as ∧ s1.heap.objs.size ∉ as) (l.map fun q => Value.ref q.1) l := fun l => by
    induction l with
    | nil => exact fun _ => .nil
    | cons x l ih => exact fun h => .cons ⟨[], rd x (h x List.mem_cons_self), by simp⟩ (ih fun q hq => h q (List.mem_cons_of_mem _ hq))
  have hmem : ∀ q ∈ L1, q.2 ≠ [] := fun q hq => hne q (hs1 q hq)
  have tot : ∀ x y : Addr × List Int, PySem.W.dataLe false encR x y = !Ev.lexLt y.2 x.2 := fun x y => by
    rw [PySem.W.dataLe_eq]
    show (!PySem.W.dataLt (encR y) (encR x)) = _
    rw [dataLt_rows]
  refine wpAny_bind (wpAny_holding (PySem.W.list_sort_data (s := { s1 with heap := s1.heap.push (seqObj "list" vs.toArray 0) }) (vs := vs) (enc := encR) (R := fun v b => v = Value.ref b.1) (bs := L1) hoL (by rw [e1]; exact ea L1) (by
      have z := er L1 hs1
      rw [← e1] at z
      exact z) ?_ ?_ ?_ ?_ fun out ol eo => ?_))
  · intro d hd d' hd'
    obtain ⟨q, _, rfl⟩ := List.mem_map.mp hd
    obtain ⟨r, _, rfl⟩ := List.mem_map.mp hd'
    exact PySem.W.alike_ints q.2 r.2
  · refine .inl fun d hd => ?_
    obtain ⟨q, hq, rfl⟩ := List.mem_map.mp hd
    have := hmem q hq
    obtain ⟨b, k⟩ := q
    match k, this with
    | x :: r, _ => exact ⟨.int x, r.map .int, rfl⟩
  · rw [p1.length_eq, sizeLine_eq]; omega
  · intro b _
    have h2 : (encR b).depth = 1 + PyData.depthAll (b.2.map .int) := by
      show PyData.depth (.tuple _) = _
      rw [PyData.depth]; omega
    rw [PySem.W.depth_ints] at h2
    have h3 : A.in1.units ≤ A.units + 2 := by
      show A.units + 1 ≤ _
      omega
    omega
  · have each_eq : ∀ {vs : List Value} {l : List (Addr × List Int)}, PySem.W.EachIs (fun v (b : Addr × List Int) => v = Value.ref b.1) vs l → vs = l.map fun q => Value.ref q.1 := fun {vs l} h => by
      induction h with
      | nil => rfl
      | cons h _ ih => rw [List.map_cons, h, ih]
    obtain ⟨c, hc⟩ := sortedHeap_at (vs := vs) (out := out.toArray) hoL
    refine wpAny_pure ⟨_, rfl, hQ _ s1.heap.objs.size out.toArray c (L1.mergeSort (PySem.W.dataLe false encR)) (fun b u e => ?_) g1 o1 hz hc (each_eq eo) ((List.mergeSort_perm L1 _).trans p1) ?_⟩
    · have q := k1 b u e
      have hlt := Heap.lt_size q
      show (sortedHeap (s1.heap.push (seqObj "list" vs.toArray 0)) s1.heap.objs.size vs out.toArray).get? b = some u
      rw [sortedHeap_old (Nat.ne_of_lt hlt) (by rw [size_push']; exact Nat.lt_succ_of_lt hlt)]
      exact Heap.get?_push_of_some _ q
    · have z : (L1.mergeSort (PySem.W.dataLe false encR)).Pairwise (fun a b => PySem.W.dataLe false encR a b = true) := by
        refine List.pairwise_mergeSort (fun a b c h1 h2 => ?_) (fun a b => ?_) L1
        · rw [tot] at *
          rw [Bool.not_eq_true'] at *
          refine Bool.eq_false_iff.mpr fun h => ?_
          by_cases e : b.2 = a.2
          · rw [e] at h2; rw [h2] at h; cases h
          · have k := lexLt_tr h (lexLt_tri h1 e)
            rw [h2] at k; cases k
        · rw [tot, tot, Bool.or_eq_true, Bool.not_eq_true', Bool.not_eq_true']
          by_cases h : Ev.lexLt b.2 a.2 = true
          · refine .inr (Bool.eq_false_iff.mpr fun k => ?_)
            have := lexLt_tr h k
            rw [lexLt_irr] at this; cases this
          · exact .inl (Bool.eq_false_iff.mpr h)
      exact z.imp fun {a b} h => by rw [tot, Bool.not_eq_true'] at h; exact h
end
end Ev
namespace Ev
open PySem PySem.Spec PyProof.Rows L2
section
variable {X : Cx}
/-- sorted(set) -/
def rSortR (K : PySem.W.Frag) (P : Program) (w : World) : List V → Hp → VK → Prop := fun vs H Q => ∃ (a : Addr) (L : List (Addr × List Int)), vs = [V.ref a] ∧ H a = some (SetTO P w a L) ∧ (∀ p ∈ L, SqT K H p.1 (p.2.map V.int)) ∧ (∀ p ∈ L, p.2 ≠ []) ∧
  ∀ (L' : List (Addr × List Int)) (p : Addr), L'.Perm L → (L'.map (·.2)).Nodup → L'.Pairwise (fun q r => Ev.lexLt r.2 q.2 = false) → H p = none → Q (.ref p) (upd H p (.lst (L'.map fun q => V.ref q.1)))
theorem cr_sortR (hc : X.calm = true) (hu : X.A.units + 65 < cLine) : CallR X (.builtin "sorted") (rSortR X.K X.prog X.w) := by
  intro pins s σ H vs us Q I r h
  obtain ⟨a, L, rfl, ha, hk, hne, q⟩ := h
  have R0 : SetT0 X.prog X.w s.heap a L := (I.hok a _ ha).1
  obtain ⟨es, ep, t, R⟩ := R0.full fun p hp => I.isT (hk p hp)
  rw [Vals.ref1 r]
  refine sorted_setD R (I.ok.hd hc) hne (by omega) fun s' p out c L' k g o hp hg hout pm pw => ?_
  have hfew : L'.length < 64 := by rw [pm.length_eq]; exact R.few
  have hlen : (L'.map fun q => V.ref q.1).length ≤ sizeLine := by rw [List.length_map, sizeLine_eq]; omega
  have hn : H p = none := I.hok.fresh hp
  have hv : Vals (L'.map fun q => V.ref q.1) out.toList := by rw [hout]; exact vals_of_refs L'
  have J : Inv X pins σ (upd H p (.lst (L'.map fun q => V.ref q.1))) { s with heap := s'.heap, gens := s'.gens, drawn := s'.drawn, toks := s'.toks } :=
    I.call (ch := []) (Un.laid k hp hn) (I.hok.laid k hp ⟨hlen, out.toList, c, hv, hg⟩) (by rw [g]; exact I.bare) (fun _ z => nomatch z)
  have e : s' = { s with heap := s'.heap, gens := s'.gens, drawn := s'.drawn, toks := s'.toks } := by
    cases s'
    cases s
    cases o
    rfl
  rw [e]
  exact ⟨.ref p, _, J, rfl, q L' p pm ((pm.map (·.2)).nodup_iff.mpr R.nd) pw hn⟩
end
section
variable {G : Pl} {μ : Mu} {H : Hp}
theorem reps_rows : ∀ {xs : List PV} {rows : List (List Int)} {vs : List V}, rowsV xs = some rows → Reps G μ H xs vs → ∃ ks : List (Addr × List Int), vs = (ks.map fun p => V.ref p.1) ∧ ks.map (·.2) = rows ∧ ∀ p ∈ ks, SqT G.K H p.1 (p.2.map V.int)
  | [], rows, vs, e, h => by
    have : rows = [] := by simpa [rowsV] using e.symm
    subst this
    exact ⟨[], h, rfl, fun p hp => by cases hp⟩
  | .tup xs :: r, rows, vs, e, h => by
    rw [rowsV] at e
    split at e
    · rename_i k ek
      obtain ⟨rows', e1, e2⟩ := Option.map_eq_some_iff.mp e
      obtain ⟨v, w, h1, h2, h3⟩ := h
      obtain ⟨a, us, g1, g2, g3⟩ := h2
      subst h1 e2 g1
      obtain ⟨ks, k1, k2, k3⟩ := reps_rows e1 h3
      rw [reps_ints ek g3] at g2
      refine ⟨(a, k) :: ks, by rw [k1]; rfl, by rw [List.map_cons, k2], fun p hp => ?_⟩
      rcases List.mem_cons.mp hp with rfl | hp
      · exact g2
      · exact k3 p hp
    · cases e
  | .non :: r, _, _, e, _ => by simp [rowsV] at e
  | .int _ :: r, _, _, e, _ => by simp [rowsV] at e
  | .bl _ :: r, _, _, e, _ => by simp [rowsV] at e
  | .str _ :: r, _, _, e, _ => by simp [rowsV] at e
  | .pl _ :: r, _, _, e, _ => by simp [rowsV] at e
  | .scr _ :: r, _, _, e, _ => by simp [rowsV] at e
  | .ml _ :: r, _, _, e, _ => by simp [rowsV] at e
  | .fn _ :: r, _, _, e, _ => by simp [rowsV] at e
  | .exn :: r, _, _, e, _ => by simp [rowsV] at e
theorem ints_reps : ∀ k : List Int, Reps G μ H (k.map PV.int) (k.map V.int)
  | [] => rfl
  | i :: k => ⟨.int i, k.map V.int, rfl, rfl, ints_reps k⟩
theorem rows_reps : ∀ {ks : List (Addr × List Int)}, (∀ p ∈ ks, SqT G.K H p.1 (p.2.map V.int)) → Reps G μ H ((ks.map (·.2)).map tupI) (ks.map fun p => V.ref p.1)
  | [], _ => rfl
  | p :: ks, h => ⟨.ref p.1, ks.map (fun p => V.ref p.1), rfl, ⟨p.1, p.2.map V.int, rfl, h p List.mem_cons_self, ints_reps p.2⟩, rows_reps fun q hq => h q (List.mem_cons_of_mem _ hq)⟩
end
section
variable {T : Tp} {n : Nat} {X : Cx} {W : WX} {a : Expr} {ea : E} {m : Bool} {p p2 q pos : Pos}
theorem e_sset (K : T.Md) (C : Cool T n X W) (hg : Gl X "sorted") (hg2 : Gl X "set") (hs : notStar a = true) (ha : PE X a (tE T n W ea)) :
    PE X (.Call (.Name "sorted" p) [.Call (.Name "set" p2) [a] [] q] [] pos) (tE T n W (.sset m ea)) := by
  have hm1 : X.mg "sorted" = none := by rw [C.mg]; exact K.blt _ (by decide +kernel)
  have hm2 : X.mg "set" = none := by rw [C.mg]; exact K.blt _ (by decide +kernel)
  have hun : X.A.units + 65 < cLine := C.toCok.un
  refine PE.imp (pe_callB (cr_sortR C.calm hun) hg hm1 (by decide +kernel) (pa_cons (pe_callTy (cr_setOfT C.calm (by omega)) hg2 hm2 (by decide +kernel) (pa_cons ha pa_nil (starEach_cons hs _ _)) (by decide +kernel) (by decide +kernel) (starEach_cons hs _ _) rfl) pa_nil (starEach_cons rfl _ _)) (by decide +kernel) (by decide +kernel) (starEach_cons rfl _ _) rfl) fun σ H Q ⟨μ, env, st, rs, r⟩ => ?_
  rw [evE] at r
  refine ⟨μ, env, st, rs, r.bind.mono fun x μ1 st1 H1 hx e1 s1 p1 v rv => ?_⟩
  split at p1
  · rename_i rows en
    split at p1
    · rename_i few
      obtain ⟨xs, z1, z2⟩ := Option.bind_eq_some_iff.mp en
      obtain ⟨l, ws, rfl, q1, q2⟩ := rep_litems s1 rv z1
      obtain ⟨ks, rfl, k2, k3⟩ := reps_rows z2 q2
      simp only [Bool.and_eq_true, decide_eq_true_eq] at few
      obtain ⟨f1, f2⟩ := few
      have hks : ks.length < 64 := by rw [← k2, List.length_map] at f1; exact f1
      refine ⟨l, ks, rfl, SqL.of q1, fun p hp => C.K ▸ k3 p hp, hks, fun S L hS hsub hall => ?_⟩
      have e2 := Ext.new (G := T.G) (o := SetTO X.prog X.w S L) s1 hS
      have s2 := s1.new (o := SetTO X.prog X.w S L) hS
      have kL : ∀ p ∈ L, SqT X.K (upd H1 S (SetTO X.prog X.w S L)) p.1 (p.2.map V.int) := fun p hp => by
        rw [C.K]; exact Wid.tup e2.toWex.wid (k3 p (hsub p hp))
      have ne : ∀ p ∈ L, p.2 ≠ [] := fun p hp z => by
        have := List.all_eq_true.mp f2 p.2 (by rw [← k2]; exact List.mem_map.mpr ⟨p, hsub p hp, rfl⟩)
        rw [z] at this; cases this
      refine ⟨S, L, rfl, upd_same, kL, ne, fun L' D pm nd pw hD => ?_⟩
      have ee : L'.map (·.2) = sortI rows := by
        refine pw_uniq ?_ (sortI_pw rows) fun y => ?_
        · refine List.pairwise_map.mpr ((List.Pairwise.and pw (List.pairwise_map.mp nd)).imp fun {u v} h => lexLt_tri h.1 fun z => h.2 z.symm)
        · rw [sortI_mem, ← k2]
          constructor
          · intro h
            obtain ⟨p, hp, rfl⟩ := List.mem_map.mp h
            exact List.mem_map.mpr ⟨p, hsub p (pm.mem_iff.mp hp), rfl⟩
          · intro h
            obtain ⟨p, hp, rfl⟩ := List.mem_map.mp h
            obtain ⟨q, hq, e⟩ := List.mem_map.mp (hall p hp)
            exact List.mem_map.mpr ⟨q, pm.mem_iff.mpr hq, e⟩
      have rp := rows_reps (G := T.G) (μ := μ1) (H := upd H1 S (SetTO X.prog X.w S L)) (ks := L') fun p hp => by rw [← C.K]; exact kL p (pm.mem_iff.mp hp)
      rw [ee] at rp
      exact (Post.mkL (Post.ext e2 p1) s2 rp).2 D hD
    · exact (p1 : False).elim
  · exact (p1 : False).elim
end
end Ev

/-! EvE3: isinstance, lists' methods, stores. -/
namespace Ev
open PySem PySem.Spec PyProof.Rows L2
def tyS : Ty → String
  | .int => "int" | .bool => "bool" | .str => "str" | .tuple => "tuple" | .list => "list"
def tyN : Ty → Str
  | .int => "int" | .bool => "bool" | .str => "str" | .tuple => "tuple" | .list => "list"
/-- a value's type -/
def tyV1 : PV → Option String
  | .non => some "NoneType" | .bl _ => some "bool" | .int _ => some "int" | .str _ => some "str" | .tup _ => some "tuple" | .pl _ => some "list" | .scr _ => some "list" | .ml _ => some "list" | _ => none
def oneTy (x : PV) (t : Ty) : Bool := match x, t with
  | .bl _, .int => true | .bl _, .bool => true | .int _, .int => true | .str _, .str => true | .tup _, .tuple => true | .pl _, .list => true | .scr _, .list => true | .ml _, .list => true
  | _, _ => false
theorem tyIs_any {x : PV} {ts : List Ty} {b : Bool} (h : tyIs x ts = some b) : b = ts.any (oneTy x) ∧ ∃ s, tyV1 x = some s := by
  cases x <;> simp only [tyIs] at h <;> first | cases h | skip
  all_goals refine ⟨?_, _, rfl⟩
  · symm; rw [List.any_eq_false]; intro t _; cases t <;> simp [oneTy]
  all_goals (congr 1; funext t; cases t <;> rfl)
theorem kit_one {K : PySem.W.Frag} {x : PV} {s : String} (t : Ty) (h : tyV1 x = some s) : PySem.W.kitOne K (.type s) (.type (tyS t)) = some (oneTy x t) := by
  cases x <;> simp only [tyV1] at h <;> cases h <;> cases t <;> first | exact (kit_ty (r := true) (by decide +kernel)) | exact (kit_ty (r := false) (by decide +kernel))
section
variable {T : Tp} {n : Nat} {X : Cx} {W : WX} {pos : Pos} {a b : Expr} {rest : List Expr} {ea eb : E} {er es : Es}
theorem rep_ty {G : Pl} {μ : Mu} {H : Hp} {st : Sto} {x : PV} {v : V} {s : String} (s0 : RepSt G μ H st) (h : Rep G μ H x v) (e : tyV1 x = some s) : TyX G.K H v (.type s) := by
  cases x with
  | non => cases e; cases (show v = _ from h); exact .base .non
  | bl c => cases e; cases (show v = _ from h); exact .base (.bl c)
  | int c => cases e; cases (show v = _ from h); exact .base (.int c)
  | str c => cases e; cases (show v = _ from h); exact .base (.str _)
  | tup xs =>
    cases e
    obtain ⟨a, vs, rfl, q, _⟩ := h
    rcases q with (q | ⟨o, q⟩) | ⟨o, its, k, q1, q2, _⟩
    · exact .base (.tup q)
    · exact .fTuple q
    · exact .kTuple q1 q2
  | pl xs =>
    cases e
    obtain ⟨a, vs, rfl, _, q, _⟩ := h
    exact .base (.lst q)
  | scr xs =>
    cases e
    obtain ⟨a, vs, rfl, q, _⟩ := h
    rcases q with ⟨_, q | ⟨o, q⟩⟩ | ⟨o, its, k, q1, q2, _⟩
    · exact .base (.lst q)
    · exact .base (.frz q)
    · exact .kList q1 q2
  | ml i =>
    cases e
    obtain ⟨a, rfl, _, vs, q⟩ := h
    exact .base (.lst q)
  | fn _ => cases e
  | exn => cases e
  | dic _ _ => cases e
  | md _ => cases e
theorem ty_in (t : Ty) : tyN t ∈ bltNames := by cases t <;> decide +kernel
theorem boot_ty (t : Ty) : bootBuiltins (tyN t) = some (.type (tyS t)) := by cases t <;> decide +kernel
theorem pe_ty {p : Pos} (K : T.Md) (C : Cok T n X W) (t : Ty) (hg : Gl X (tyN t)) : PE X (.Name (tyN t) p) (tC (.ty (tyS t))) :=
  pe_bltn hg (by rw [C.mg]; exact K.blt _ (ty_in t)) (boot_ty t) rfl (by cases t <;> decide +kernel) (by cases t <;> decide +kernel)
theorem e_isi1 {p p2 : Pos} (K : T.Md) (C : Cok T n X W) (t : Ty) (hg : Gl X "isinstance") (hg2 : Gl X (tyN t)) (hs : notStar a = true) (ha : PE X a (tE T n W ea)) :
    PE X (.Call (.Name "isinstance" p) [a, .Name (tyN t) p2] [] pos) (tE T n W (.isi ea [t])) := by
  have hm : X.mg "isinstance" = none := by rw [C.mg]; exact K.blt _ (by decide +kernel)
  refine PE.imp (pe_callB call_isi hg hm (by decide +kernel) (pa_cons ha (pa_cons (pe_ty K C t hg2) pa_nil) (starEach_cons hs _ _)) (by decide +kernel) (by decide +kernel) (starEach_cons hs _ _) rfl) fun σ H Q ⟨μ, env, st, rs, q⟩ => ?_
  rw [evE] at q
  refine ⟨μ, env, st, rs, q.bind.mono fun x μ1 st1 H1 _ e1 s1 p1 v rv => ?_⟩
  obtain ⟨b, e, q⟩ := Post.toR p1.bind s1
  obtain ⟨eb, s, es⟩ := tyIs_any e
  have eb' : b = oneTy x t := by rw [eb]; simp
  exact ⟨v, _, _, _, b, rfl, .ty _, C.K ▸ rep_ty s1 rv es, by rw [eb']; exact kit_one t es, Post.ok q s1 _ rfl⟩
theorem e_isi2 {p p2 p3 p4 : Pos} {x1 : Nat} (K : T.Md) (C : Cok T n X W) (t u : Ty) (hg : Gl X "isinstance") (hg2 : Gl X (tyN t)) (hg3 : Gl X (tyN u)) (hs : notStar a = true) (ha : PE X a (tE T n W ea)) :
    PE X (.Call (.Name "isinstance" p) [a, .Tuple [.Name (tyN t) p2, .Name (tyN u) p3] x1 p4] [] pos) (tE T n W (.isi ea [t, u])) := by
  have hm : X.mg "isinstance" = none := by rw [C.mg]; exact K.blt _ (by decide +kernel)
  refine PE.imp (pe_callB call_isiT hg hm (by decide +kernel) (pa_cons ha (pa_cons (pe_tup (pa_cons (pe_ty K C t hg2) (pa_cons (pe_ty K C u hg3) pa_nil))) pa_nil) (starEach_cons hs _ _)) (by decide +kernel) (by decide +kernel) (starEach_cons hs _ _) rfl) fun σ H Q ⟨μ, env, st, rs, q⟩ => ?_
  rw [evE] at q
  refine ⟨μ, env, st, rs, q.bind.mono fun x μ1 st1 H1 _ e1 s1 p1 v rv => ?_⟩
  refine ⟨by show 2 ≤ sizeLine; rw [sizeLine_eq]; decide, fun tp htp => ?_⟩
  have e2 := Ext.new (G := T.G) (o := .tup [V.ty (tyS t), V.ty (tyS u)]) s1 htp
  have s2 := s1.new (o := .tup [V.ty (tyS t), V.ty (tyS u)]) htp
  obtain ⟨b, e, q⟩ := Post.toR (Post.ext e2 p1.bind) s2
  obtain ⟨eb, s, es⟩ := tyIs_any e
  refine ⟨v, tp, _, _, [.type (tyS t), .type (tyS u)], b, rfl, upd_same, .cons (.ty _) (.cons (.ty _) .nil), C.K ▸ rep_ty s2 (rv.mono e2) es, ?_, Post.ok q s2 _ rfl⟩
  refine kitAny_cons (kit_one t es) (fun h1 => kitAny_cons (kit_one u es) (fun h2 => ?_) fun h2 => ?_) fun h1 => ?_
  · rw [kitAny_nil, eb]; simp [h1, h2]
  · rw [eb]; simp [h2]
  · rw [eb]; simp [h1]

/-! ### lists' methods -/
theorem isL_sq {G : Pl} {μ : Mu} {H : Hp} {st : Sto} {x : PV} {v : V} (s0 : RepSt G μ H st) (h : Rep G μ H x v) (e : isL x = true) : tyV G.K "list" v H := by
  cases x <;> first | cases e | skip
  · obtain ⟨a, vs, rfl, _, q, _⟩ := h
    exact .inl ⟨rfl, vs, SqL.of q⟩
  · obtain ⟨a, rfl, _, vs, q⟩ := h
    exact .inl ⟨rfl, vs, SqL.of q⟩
theorem i_meth {k : Me} {σ : L2.St} {H : Hp} {Q : VK} {r : V → List V → Hp → VK → Prop} (C : Cok T n X W) (h : tE T n W (.meth k ea es) σ H Q)
    (hr : ∀ μ H st x v xs vs, RepSt T.G μ H st → Rep T.G μ H x v → Reps T.G μ H xs vs → Post T.G W μ H σ (meth st k x xs) (Val T.G Q) → r v vs H Q) : tBM X.K "list" r (tE T n W ea) (tEs T n W es) σ H Q := by
  obtain ⟨μ, env, st, rs, q⟩ := h
  rw [evE] at q
  refine ⟨μ, env, st, rs, q.bind.mono fun x μ1 st1 H1 _ e1 s1 p1 v rv => ?_⟩
  split at p1
  · rename_i hl
    exact ⟨C.K ▸ isL_sq s1 rv hl, μ1, env, st1, rs.mono e1 s1, p1.bind.mono fun xs μ2 st2 H2 _ e2 s2 p2 vs rvs => hr μ2 H2 st2 x v xs vs s2 (rv.mono e2) rvs p2⟩
  · exact p1.elim
theorem e_append {apos : Pos} (C : Cok T n X W) (ha : PE X a (tE T n W ea)) (hb : PA X [b] (tEs T n W es)) (hs : notStar b = true) (hbase : attributeBase a "append" X.env (eval a X.env) = eval a X.env) (hline : (apos.endLine == pos.line) = true) :
    PE X (.Call (.Attribute a "append" apos) [b] [] pos) (tE T n W (.meth .append ea es)) :=
  PE.imp (pe_bm PySem.F.plainAttrs_list PySem.F.slot_list_append PySem.F.type_list_append mt_append ha hb hbase (by rw [starEach_cons hs]; rfl) hline (starEach_cons hs _ _) rfl) fun σ H Q h => i_meth C h fun μ H st x v xs vs s0 rv rvs p => by
    unfold meth at p
    split at p <;> first | exact (p : False).elim | contradiction | skip
    rename_i i y _
    obtain ⟨w, rfl, rw_⟩ := reps1 rvs
    split at p <;> first | exact (p : False).elim | skip
    rename_i zs e
    obtain ⟨l, ws, rfl, q1, q2, q3⟩ := rep_ml s0 rv e
    by_cases hc : zs.length < 16777216
    · rw [if_pos (decide_eq_true hc)] at p
      have hi : i < st.length := (List.getElem?_eq_some_iff.mp e).1
      obtain ⟨x1, x2⟩ := s0.put hi q1 q2 (q3.append (Reps.one rw_))
      exact ⟨l, ws, w, rfl, rfl, q2, by rw [← q3.length, sizeLine_eq]; exact hc, p μ _ x1 x2 _ rfl⟩
    · rw [if_neg (by simpa using hc)] at p; exact p.elim
/-- xs.extend(t), t a tuple -/
theorem extend_tup {l b : Addr} {items items2 : Array Value} {n : Nat} (hlong : ¬ (!items.isEmpty && Builtin.List.listTooLong (items.size + items2.size)) = true) (hz : items.size ≤ sizeLine) (hz2 : items.size + items2.size ≤ sizeLine + 1) :
    Meets (Builtin.«list.extend» ⟨[.ref l, .ref b], []⟩) (fun _ R s => s.heap.get? l = some { cls := .type "list", dict := none, data := .seq items n, slots := #[] } ∧ s.heap.IsTuple b items2 ∧ R (.ok (.ret Value.none)) { s with heap := s.heap.update l (Obj.mapSeq fun x => x ++ items2) }) :=
  .of_wp fun prog w A R s h => by
    obtain ⟨hl, ⟨o, ho, hc, m, hd⟩, h⟩ := h
    show wpAny _ A.in1 (Builtin.List.listExtendWith (.ref l) (.ref b) .none) _ _ s
    unfold Builtin.List.listExtendWith
    refine wpAny_bind (wpAny_typeOf ⟨o, ho, hc⟩ ?_)
    have h1 : (Builtin.List.listSameRef (.ref l) (.ref b) || Value.type "tuple" == Value.type "list" || Value.type "tuple" == Value.type "tuple") = true := by simp
    simp only [h1, if_true]
    refine wpAny_bind ?_
    unfold Builtin.List.listItems
    refine wpAny_bind (wpAny_seqItems ho hd (wpAny_pure ?_))
    refine wpAny_bind ?_
    refine wpAny_bind (wpAny_seqItems hl rfl (wpAny_pure ?_))
    rw [if_neg hlong]
    have hz3 : (items ++ items2).size ≤ sizeLine + 1 := by rw [Array.size_append]; exact hz2
    show wpAny _ A.in1 (updateSeq l (· ++ items2) >>= fun _ => ret .none) _ _ s
    refine wpAny_bind (wpAny_updateSeq hl rfl (hz := hz) (_hz' := hz3) ?_)
    exact wpAny_pure ⟨_, rfl, h⟩
def rExtendA (K : PySem.W.Frag) : V → List V → Hp → VK → Prop := fun x vs H Q => rExtend x vs H Q ∨ ∃ l b xs zs, x = .ref l ∧ vs = [.ref b] ∧ H l = some (.lst xs) ∧ SqT K H b zs ∧ xs.length + zs.length ≤ sizeLine ∧ Q .non (upd H l (.lst (xs ++ zs)))
theorem mt_extendA {X : Cx} : MtR X "list.extend" (rExtendA X.K) := by
  intro pins s σ H x vs v us Q I rx rv h
  rcases h with h | h
  · exact mt_extend pins s σ H x vs v us Q I rx rv h
  obtain ⟨l, b, xs, zs, rfl, rfl, hH, hB, hz, q⟩ := h
  cases rx
  obtain ⟨u, rfl, ru⟩ := rv.one
  cases ru
  obtain ⟨z, its, n, r, hl, e⟩ := I.lstM hH
  obtain ⟨its2, r2, hb, z2⟩ := I.tuple hB
  have hl2 := r2.length
  have hsz : its.toArray.size + its2.toArray.size ≤ sizeLine := by rw [List.size_toArray, List.size_toArray]; omega
  have hlong : ¬ (!its.toArray.isEmpty && Builtin.List.listTooLong (its.toArray.size + its2.toArray.size)) = true := by
    rw [notLongL hsz, Bool.and_false]
    exact Bool.false_ne_true
  refine call_meets F.slot_list_extend ⟨_, e, rfl⟩ F.entry_list_extend (F.args_list_extend_2 _ _)
    (extend_tup (l := l) (b := b) (items := its.toArray) (items2 := its2.toArray) (n := n) hlong (by rw [List.size_toArray]; omega) (by omega)) ⟨e, hb, ?_⟩
  refine ⟨.non, _, I.lset (its' := its ++ its2) (t' := s.toks) hH e (by simp) (r.append r2) ?_, rfl, q⟩
  rw [List.length_append]
  omega
theorem e_extend {apos : Pos} (C : Cok T n X W) (ha : PE X a (tE T n W ea)) (hb : PA X [b] (tEs T n W es)) (hs : notStar b = true) (hbase : attributeBase a "extend" X.env (eval a X.env) = eval a X.env) (hline : (apos.endLine == pos.line) = true) :
    PE X (.Call (.Attribute a "extend" apos) [b] [] pos) (tE T n W (.meth .extend ea es)) :=
  PE.imp (pe_bm PySem.F.plainAttrs_list PySem.F.slot_list_extend PySem.F.type_list_extend mt_extendA ha hb hbase (by rw [starEach_cons hs]; rfl) hline (starEach_cons hs _ _) rfl) fun σ H Q h => i_meth C h fun μ H st x v xs vs s0 rv rvs p => by
    unfold meth at p
    split at p <;> first | exact (p : False).elim | contradiction | skip
    rename_i i y _
    obtain ⟨w, rfl, rw_⟩ := reps1 rvs
    split at p <;> first | exact (p : False).elim | skip
    rename_i zs ys e e2
    obtain ⟨l, ws, rfl, q1, q2, q3⟩ := rep_ml s0 rv e
    by_cases hc : zs.length + ys.length ≤ 16777216
    · rw [if_pos (decide_eq_true hc)] at p
      have hi : i < st.length := (List.getElem?_eq_some_iff.mp e).1
      cases y with
      | tup y =>
        have e3 : y = ys := by simpa [xitems] using e2
        subst e3
        obtain ⟨l2, ws2, rfl, q4, q5⟩ := rw_
        obtain ⟨x1, x2⟩ := s0.put hi q1 q2 (q3.append q5)
        exact .inr ⟨l, l2, ws, ws2, rfl, rfl, q2, C.K ▸ q4, by rw [← q3.length, ← q5.length, sizeLine_eq]; exact hc, p μ _ x1 x2 _ rfl⟩
      | _ =>
        obtain ⟨l2, ws2, rfl, q4, q5⟩ := rep_litems s0 rw_ e2
        obtain ⟨x1, x2⟩ := s0.put hi q1 q2 (q3.append q5)
        exact .inl ⟨l, l2, ws, ws2, rfl, rfl, q2, q4, by rw [← q3.length, ← q5.length, sizeLine_eq]; exact hc, p μ _ x1 x2 _ rfl⟩
    · rw [if_neg (by simpa using hc)] at p; exact p.elim
theorem ixN_seq {n : Nat} {i : Int} {k : Nat} (h : ixN n i = some k) : seqIndex? i n = some k := by
  unfold ixN at h
  unfold seqIndex?
  by_cases h0 : 0 ≤ i
  · rw [if_pos h0] at h
    by_cases h1 : i < n
    · rw [if_pos h1] at h
      cases h
      have : ¬ i < 0 := by omega
      simp [this, h0, h1]
    · rw [if_neg h1] at h; cases h
  · rw [if_neg h0] at h
    by_cases h1 : -(n : Int) ≤ i
    · rw [if_pos h1] at h
      cases h
      have a : i < 0 := by omega
      have b : 0 ≤ i + n := by omega
      have c : i + n < n := by omega
      simp [a, b, c]
    · rw [if_neg h1] at h; cases h
theorem Reps.eraseIdx {G : Pl} {μ : Mu} {H : Hp} : ∀ {xs : List PV} {vs : List V} (k : Nat), Reps G μ H xs vs → Reps G μ H (xs.eraseIdx k) (vs.eraseIdx k)
  | [], _, k, h => by rw [show _ = [] from h]; rfl
  | _ :: xs, _, 0, ⟨v, r, h1, _, h3⟩ => by rw [h1]; exact h3
  | _ :: xs, _, k + 1, ⟨v, r, h1, h2, h3⟩ => by rw [h1]; exact ⟨_, _, rfl, h2, Reps.eraseIdx k h3⟩
theorem e_popAt {apos : Pos} (C : Cok T n X W) (ha : PE X a (tE T n W ea)) (hb : PA X [b] (tEs T n W es)) (hs : notStar b = true) (hbase : attributeBase a "pop" X.env (eval a X.env) = eval a X.env) (hline : (apos.endLine == pos.line) = true) :
    PE X (.Call (.Attribute a "pop" apos) [b] [] pos) (tE T n W (.meth .popAt ea es)) :=
  PE.imp (pe_bm PySem.F.plainAttrs_list PySem.F.slot_list_pop PySem.F.type_list_pop mt_popAt ha hb hbase (by rw [starEach_cons hs]; rfl) hline (starEach_cons hs _ _) rfl) fun σ H Q h => i_meth C h fun μ H st x v xs vs s0 rv rvs p => by
    unfold meth at p
    split at p <;> first | exact (p : False).elim | contradiction | skip
    rename_i i j _
    obtain ⟨w, rfl, rw_⟩ := reps1 rvs
    cases (show w = .int j from rw_)
    split at p <;> first | exact (p : False).elim | skip
    rename_i zs e
    split at p <;> first | exact (p : False).elim | skip
    rename_i hz
    have hz := of_decide_eq_true hz
    split at p <;> first | exact (p : False).elim | skip
    rename_i k ek
    split at p <;> first | exact (p : False).elim | skip
    rename_i y ey
    obtain ⟨l, ws, rfl, q1, q2, q3⟩ := rep_ml s0 rv e
    have hi : i < st.length := (List.getElem?_eq_some_iff.mp e).1
    obtain ⟨u, g1, g2⟩ := q3.get ey
    obtain ⟨x1, x2⟩ := s0.put hi q1 q2 (q3.eraseIdx k)
    have hb : -(zs.length : Int) ≤ j ∧ j < zs.length := by
      unfold ixN at ek
      split at ek
      · split at ek
        · omega
        · cases ek
      · split at ek
        · omega
        · cases ek
    exact ⟨l, ws, j, k, u, rfl, rfl, q2, by omega, by omega, by rw [← q3.length]; exact ixN_seq ek, g1, p μ _ x1 x2 _ (g2.mono x1)⟩
theorem e_insert {apos : Pos} (C : Cok T n X W) (ha : PE X a (tE T n W ea)) {b' : Expr} (hb : PA X [b, b'] (tEs T n W es)) (hs : notStar b = true) (hs' : notStar b' = true) (hbase : attributeBase a "insert" X.env (eval a X.env) = eval a X.env) (hline : (apos.endLine == pos.line) = true) :
    PE X (.Call (.Attribute a "insert" apos) [b, b'] [] pos) (tE T n W (.meth .insert ea es)) :=
  PE.imp (pe_bm PySem.F.plainAttrs_list PySem.F.slot_list_insert PySem.F.type_list_insert mt_insert ha hb hbase (by rw [starEach_cons hs, starEach_cons hs']; rfl) hline (starEach_cons hs _ _) (by rw [starEach_cons hs']; rfl)) fun σ H Q h => i_meth C h fun μ H st x v xs vs s0 rv rvs p => by
    unfold meth at p
    split at p <;> first | exact (p : False).elim | contradiction | skip
    rename_i i j y _
    obtain ⟨w, u, rfl, rw_, ru⟩ := reps2 rvs
    cases (show w = .int j from rw_)
    split at p <;> first | exact (p : False).elim | skip
    rename_i zs e
    split at p <;> first | exact (p : False).elim | skip
    rename_i hz
    simp only [Bool.and_eq_true, decide_eq_true_eq] at hz
    obtain ⟨⟨z1, z2⟩, z3⟩ := hz
    obtain ⟨l, ws, rfl, q1, q2, q3⟩ := rep_ml s0 rv e
    have hi : i < st.length := (List.getElem?_eq_some_iff.mp e).1
    obtain ⟨x1, x2⟩ := s0.put hi q1 q2 (((q3.take j.toNat).append (Reps.one ru)).append (q3.drop j.toNat))
    exact ⟨l, ws, j, u, rfl, rfl, q2, by rw [← q3.length, sizeLine_eq]; omega, z2, by omega, p μ _ x1 x2 _ rfl⟩
theorem firstIx_ok {y : PV} (hy : plain 58 y = true) : ∀ {xs : List PV} {k : Nat}, plains 58 xs = true → firstIx y xs = some k → ∃ z, (toDs xs)[k]? = some z ∧ PyData.eqv z (toD y) = true ∧ ∀ (m : Nat) (z' : PyData), m < k → (toDs xs)[m]? = some z' → PyData.eqv z' (toD y) = false
  | [], k, _, h => by simp [firstIx] at h
  | x :: r, k, p, h => by
    simp only [plains, Bool.and_eq_true] at p
    rw [firstIx] at h
    by_cases c : peq x y = true
    · rw [if_pos c] at h
      cases h
      refine ⟨toD x, by rw [toDs]; rfl, by rw [peq_eqv x y p.1 hy]; exact c, fun m z' hm => absurd hm (Nat.not_lt_zero _)⟩
    · rw [if_neg c] at h
      obtain ⟨j, h1, rfl⟩ := Option.map_eq_some_iff.mp h
      obtain ⟨z, g1, g2, g3⟩ := firstIx_ok hy p.2 h1
      refine ⟨z, by rw [toDs]; exact g1, g2, fun m z' hm hz => ?_⟩
      rw [toDs] at hz
      cases m with
      | zero =>
        have : toD x = z' := by simpa using hz
        rw [← this, peq_eqv x y p.1 hy]; exact Bool.eq_false_iff.mpr c
      | succ m => exact g3 m z' (by omega) (by simpa using hz)
theorem e_index {apos : Pos} (C : Cok T n X W) (ha : PE X a (tE T n W ea)) (hb : PA X [b] (tEs T n W es)) (hs : notStar b = true) (hbase : attributeBase a "index" X.env (eval a X.env) = eval a X.env) (hline : (apos.endLine == pos.line) = true) :
    PE X (.Call (.Attribute a "index" apos) [b] [] pos) (tE T n W (.meth .index ea es)) :=
  PE.imp (pe_bm PySem.F.plainAttrs_list PySem.F.slot_list_index PySem.F.type_list_index (mt_indexD C.un) ha hb hbase (by rw [starEach_cons hs]; rfl) hline (starEach_cons hs _ _) rfl) fun σ H Q h => i_meth C h fun μ H st x v xs vs s0 rv rvs p => by
    unfold meth at p
    split at p <;> first | exact (p : False).elim | contradiction | skip
    rename_i y _
    obtain ⟨w, rfl, rw_⟩ := reps1 rvs
    split at p <;> first | exact (p : False).elim | skip
    rename_i zs e
    split at p <;> first | exact (p : False).elim | skip
    rename_i hp
    simp only [Bool.and_eq_true] at hp
    split at p <;> first | exact (p : False).elim | skip
    rename_i k ek
    obtain ⟨l, ws, rfl, q2, q3⟩ := rep_litems s0 rv e
    obtain ⟨z, g1, g2, g3⟩ := firstIx_ok hp.1 hp.2 ek
    refine ⟨l, w, toD y, toDs zs, k, z, rfl, rfl, ?_, C.K ▸ rep_dp y hp.1 rw_, ?_, plain_shaped hp.1 (by decide), g1, g2, g3, Post.ok p s0 _ rfl⟩
    · rw [C.K]; exact .lst (SqL.of q2) (reps_dp zs hp.2 q3)
    · exact plains_shaped hp.2 (by decide)
theorem e_pop {apos : Pos} (C : Cok T n X W) (ha : PE X a (tE T n W ea)) (hbase : attributeBase a "pop" X.env (eval a X.env) = eval a X.env) (hline : (apos.endLine == pos.line) = true) :
    PE X (.Call (.Attribute a "pop" apos) [] [] pos) (tE T n W (.meth .pop ea .nil)) :=
  PE.imp (pe_bm0 PySem.F.plainAttrs_list PySem.F.slot_list_pop PySem.F.type_list_pop mt_pop ha hbase hline) fun σ H Q ⟨μ, env, st, rs, q⟩ => by
    rw [evE] at q
    refine ⟨μ, env, st, rs, q.bind.mono fun x μ1 st1 H1 _ e1 s1 p1 v rv => ?_⟩
    split at p1
    · rename_i hl
      refine ⟨C.K ▸ isL_sq s1 rv hl, ?_⟩
      rw [evEs] at p1
      have p : Post T.G W μ1 H1 σ (meth st1 .pop x []) (Val T.G Q) := p1
      unfold meth at p
      split at p <;> first | exact (p : False).elim | contradiction | skip
      rename_i i _ _ _
      split at p <;> first | exact (p : False).elim | skip
      rename_i zs e
      split at p <;> first | exact (p : False).elim | skip
      rename_i y ey
      obtain ⟨l, ws, rfl, q1, q2, q3⟩ := rep_ml s1 rv e
      have hi : i < st1.length := (List.getElem?_eq_some_iff.mp e).1
      obtain ⟨x1, x2⟩ := s1.put hi q1 q2 q3.dropLast
      obtain ⟨u, g1, g2⟩ := q3.get ey
      exact ⟨l, ws, u, rfl, rfl, q2, by rw [← q3.length]; exact g1, p μ1 _ x1 x2 _ (g2.mono x1)⟩
    · exact p1.elim
end
end Ev

/-! EvE4: calls with keywords, calls of a value, steps. -/
namespace Ev
open PySem PySem.Spec PyProof.Rows L2
theorem Reps.pick {G : Pl} {μ : Mu} {H : Hp} {idx : List Nat} {xs : List PV} {vs : List V} (r : Reps G μ H xs vs) : Reps G μ H (Ev.pick idx xs) (Ev.pick idx vs) := by
  induction idx with
  | nil => exact rfl
  | cons j idx ih =>
    unfold Ev.pick
    rw [List.filterMap_cons, List.filterMap_cons]
    cases e : xs[j]? with
    | none =>
      have : vs[j]? = none := by
        rw [List.getElem?_eq_none_iff] at e ⊢
        rw [← r.length]; exact e
      rw [this]; exact ih
    | some x =>
      obtain ⟨v, e2, h⟩ := r.get e
      rw [e2]
      exact ⟨v, _, rfl, h, ih⟩
theorem vals_pick {idx : List Nat} {vs : List V} {us : List Value} (r : Vals vs us) : Vals (pick idx vs) (pick idx us) := by
  induction idx with
  | nil => exact .nil
  | cons j idx ih =>
    unfold pick
    rw [List.filterMap_cons, List.filterMap_cons]
    cases e : vs[j]? with
    | none =>
      have : us[j]? = none := by
        rw [List.getElem?_eq_none_iff] at e ⊢
        rw [← r.length]; exact e
      rw [this]; exact ih
    | some x =>
      obtain ⟨v, e2, h⟩ := r.get e
      rw [e2]
      exact .cons h ih
/-- the names of keywords -/
def kwN (ps : List Str) (ks : List Nat) : List Str := ks.map fun k => ps.getD k ("" : Str)
section
variable {T : Tp} {n : Nat} {X : Cx} {W : WX} {pos : Pos} {a b : Expr} {rest : List Expr} {ea eb : E} {er es kes : Es}
theorem k_nil : PK X [] (tEs T n W .nil) := ⟨fun pos pins s σ H Q I ⟨μ, env, st, rs, p⟩ => pk_nil.run pos pins s σ H Q I (by
  rw [evEs] at p
  exact Post.ok p rs.st [] rfl)⟩
theorem k_cons {nm : Option Str} {kpos : Pos} {kws : List Keyword} (he : ∀ x, ea ≠ .star x) (ha : PE X a (tE T n W ea)) (hr : PK X kws (tEs T n W er)) : PK X (⟨nm, a, kpos⟩ :: kws) (tEs T n W (.cons ea er)) :=
  ⟨fun pos pins s σ H Q I ⟨μ, env, st, rs, p⟩ => (pk_cons ha hr).run pos pins s σ H Q I (by
    rw [evEs.eq_3 _ _ _ _ _ _ _ (fun x h => he x h)] at p
    exact ⟨μ, env, st, rs, p.bind.mono fun x μ1 st1 H1 _ e1 s1 p1 v rv => ⟨μ1, env, st1, rs.mono e1 s1, p1.bind.mono fun xs μ2 st2 H2 _ e2 s2 p2 vs rvs => Post.ok p2 s2 _ ⟨v, vs, rfl, rv.mono e2, rvs⟩⟩⟩)⟩
/-- no method -/
def notAttr : Expr → Bool
  | .Attribute .. => false
  | _ => true
theorem kw_each {kws : List Keyword} {ns : List Str} (h : kws.map (·.arg) = ns.map some) (pos : Pos) (env : PySem.Env) :
    (backToKw pos (keywordEach kws env)).all (·.1.isSome) = true ∧ (backToKw pos (keywordEach kws env)).filterMap (·.1) = ns ∧ (backToKw pos (keywordEach kws env)).any (·.1.isNone) = false ∧ (backToKw pos (keywordEach kws env)).length = ns.length := by
  induction kws generalizing ns with
  | nil =>
    cases ns with
    | nil => exact ⟨rfl, rfl, rfl, rfl⟩
    | cons _ _ => cases h
  | cons k kws ih =>
    obtain ⟨nm, e, p⟩ := k
    cases ns with
    | nil => cases h
    | cons m ns =>
      rw [List.map_cons, List.map_cons, List.cons.injEq] at h
      obtain ⟨h1, h2⟩ := h
      have h1 : nm = some m := h1
      subst h1
      obtain ⟨i1, i2, i3, i4⟩ := ih h2
      refine ⟨?_, ?_, ?_, ?_⟩
      · show (true && _) = true
        rw [Bool.true_and]; exact i1
      · show m :: _ = m :: ns
        rw [← i2]; rfl
      · show (false || _) = false
        rw [Bool.false_or]; exact i3
      · show _ + 1 = _ + 1
        rw [← i4]; rfl
theorem run_kw {pins : List (Addr × Obj)} {σ : L2.St} {H : Hp} {s : Shared} {Q : VK} {f : Nat} {fn : Fn} {us ws : List Value} {vs zs : List V} {ks : List Nat} (K : T.Ok n) (C : Cool T n X W) (hf : T.fs[f]? = some fn)
    (I : L2.Inv X pins σ H s) (r : Vals vs us) (rz : Vals zs ws) (l1 : kwOk (fn.N.take fn.np).length vs.length ks = true) (l2 : zs.length = ks.length) (h : T.sp n f (pick (argI (fn.N.take fn.np).length vs.length ks) (vs ++ zs)) H Q (WE W σ)) :
    wpAny (model X.prog X.w) X.A (call (.ref (T.G.fa f)) us ((kwN (fn.N.take fn.np) ks).zip ws)) (EP X pins σ Q) X.xe s := by
  obtain ⟨h1, h2, F, h4⟩ := K.fn f fn hf
  have F' : FnOk X.prog X.w X.K X.mg X.base (L2.CX X.prog X.w) n (T.G.fa f) (T.fd f) (fn.N.take fn.np) (T.sp n f) := by rw [C.prog, C.w, C.K, C.mg, C.base]; exact F
  have lv := r.length
  have b := BindsTo.of_eq (s := s) (kw_bind h4 (us := us) (ws := ws) (ks := ks) (by rw [← lv]; exact l1) (rz.length.symm.trans l2))
  rw [← lv] at b
  refine wpAny_call (codeAny_mono (F'.run X.A X.stack s H ⟨us, (kwN (fn.N.take fn.np) ks).zip ws⟩ _ _ Q (WE W σ) C.room I.env0 b (vals_pick (r.append rz)) h) fun r s' hq => ?_)
  cases r with
  | error e => exact passAt C.takes σ pins H s e s' I hq
  | ok fl =>
    cases fl with
    | ret u => exact I.after hq
    | next => exact False.elim hq
    | brk => exact False.elim hq
    | cont => exact False.elim hq
theorem e_callk {f : Nat} {fn : Fn} {p : Pos} {ks : List Nat} {kws : List Keyword} {es' : List Expr} (K : T.Ok n) (C : Cool T n X W) (hf : T.fs[f]? = some fn) (hg : Gl X fn.name) (hd : (fn.name == ("__debug__" : Str)) = false) (hr : es'.all notStar = true) (hnn : es' = [] → es = .nil)
    (hk : kws.map (·.arg) = (kwN (fn.N.take fn.np) ks).map some) (har : T.ar f = (fn.N.take fn.np).length) (hes : ∀ env st xs st', evEs (T.cl n) T.gs T.ar es env st = .ok xs st' → kwOk (fn.N.take fn.np).length xs.length ks = true)
    (hkes : ∀ env st xs st', evEs (T.cl n) T.gs T.ar kes env st = .ok xs st' → xs.length = ks.length)
    (ha : PA X es' (tEs T n W es)) (hkw : PK X kws (tEs T n W kes)) : PE X (.Call (.Name fn.name p) es' kws pos) (tE T n W (.callk f es ks kes)) := by
  obtain ⟨h1, h2, F, h4⟩ := K.fn f fn hf
  refine ⟨fun pins s σ H Q I ⟨μ, env, st, rs, q⟩ => ?_⟩
  rw [evE] at q
  obtain ⟨k1, k2, k3, k4⟩ := kw_each hk pos X.env
  have hread : tEs T n W es σ H fun vs H1 => tEs T n W kes σ H1 fun zs H2 => kwOk (fn.N.take fn.np).length vs.length ks = true ∧ zs.length = ks.length ∧ T.sp n f (pick (argI (fn.N.take fn.np).length vs.length ks) (vs ++ zs)) H2 Q (WE W σ) :=
    ⟨μ, env, st, rs, q.bind.mono fun xs μ1 st1 H1 hx e1 s1 p1 vs rv => ⟨μ1, env, st1, rs.mono e1 s1, p1.bind.mono fun ys μ2 st2 H2 hy e2 s2 p2 zs rz => ⟨by rw [← rv.length]; exact hes _ _ _ _ hx, by rw [← rz.length]; exact hkes _ _ _ _ hy, μ2, st2, _, s2, ((rv.mono e2).append rz).pick (idx := argI (fn.N.take fn.np).length vs.length ks), by
      rw [har, rv.length] at p2; exact Post.fix p2⟩⟩⟩
  refine wpAny_Call_Name_kw (ld_glob I hg (by rw [C.mg]; exact h1) ?_ hd)
  have go : ∀ {us : List Value} {vs : List V} {s1 : Shared} {H1 : Hp}, Vals vs us → L2.Inv X pins σ H1 s1 → (tEs T n W kes σ H1 fun zs H2 => kwOk (fn.N.take fn.np).length vs.length ks = true ∧ zs.length = ks.length ∧ T.sp n f (pick (argI (fn.N.take fn.np).length vs.length ks) (vs ++ zs)) H2 Q (WE W σ)) →
      wpAny (model X.prog X.w) X.A (evalAll ((backToKw pos (keywordEach kws X.env)).map (·.2))) (fun ks' s₂ => X.K.In s₂.heap ∧ wpAny (model X.prog X.w) X.A (call (.ref (T.G.fa f)) us (((backToKw pos (keywordEach kws X.env)).filterMap (·.1)).zip ks')) (EP X pins σ Q) X.xe s₂) X.xe s1 := fun {us vs s1 H1} r I1 h => by
    refine thn (hkw.run pos pins s1 σ H1 _ I1 h) fun ws s2 ⟨zs, H2, I2, rz, l1, l2, q2⟩ => ⟨I2.kIn, ?_⟩
    rw [k2]
    exact run_kw K C hf I2 r rz l1 l2 q2
  cases es' with
  | nil =>
    refine PySem.W.callWith_KW0 (h₀ := X.base) I.ok.mod.kin (by rw [C.K]; exact h2) k1 ?_ (by rw [k3]; rfl)
    have hr2 : wpAny (model X.prog X.w) X.A (spliced (backTo pos (starEach [] X.env))) (AP X pins σ fun vs H1 => tEs T n W kes σ H1 fun zs H2 => kwOk (fn.N.take fn.np).length vs.length ks = true ∧ zs.length = ks.length ∧ T.sp n f (pick (argI (fn.N.take fn.np).length vs.length ks) (vs ++ zs)) H2 Q (WE W σ)) X.xe s := ha.run pos pins s σ H _ I hread
    have hnil : tEs T n W kes σ H fun zs H2 => kwOk (fn.N.take fn.np).length ([] : List V).length ks = true ∧ zs.length = ks.length ∧ T.sp n f (pick (argI (fn.N.take fn.np).length ([] : List V).length ks) ([] ++ zs)) H2 Q (WE W σ) := by
      obtain rfl := hnn rfl
      rw [evEs] at q
      have q : Post T.G W μ H σ ((evEs (T.cl n) T.gs T.ar kes env st).bind fun ws st => T.cl n f (pick (argI (T.ar f) ([] : List PV).length ks) ([] ++ ws)) st) (Val T.G Q) := q
      refine ⟨μ, env, st, rs, q.bind.mono fun ys μ2 st2 H2 hy e2 s2 p2 zs rz => ⟨hes env st [] st (by rw [evEs]), by rw [← rz.length]; exact hkes _ _ _ _ hy, μ2, st2, _, s2, (Reps.pick (idx := argI (fn.N.take fn.np).length ([] : List V).length ks) (xs := [] ++ ys) (vs := [] ++ zs) rz), by
          rw [har] at p2; exact Post.fix p2⟩⟩
    exact go .nil I hnil
  | cons y ys =>
    rw [List.all_cons, Bool.and_eq_true] at hr
    refine PySem.W.callWith_KW (h₀ := X.base) I.ok.mod.kin (by rw [C.K]; exact h2) k1 (thn (ha.run pos pins s σ H _ I hread) fun us s1 ⟨vs, H1, I1, r, q1⟩ => go r I1 q1) ?_ (starEach_cons hr.1 _ _)
    rw [k3, Bool.or_false, starEach_cons hr.1]
    show (false || (backTo pos (starEach ys X.env)).any (·.1)) = false
    rw [Bool.false_or]; exact noStars hr.2 _ _
/-- g(e, ..) where g is no name of a def -/
theorem Call_fun {g : Expr} {args : List Expr} {M : Model} {A : Around} {env : PySem.Env} {s : Shared} {E : Value → Shared → Prop} {Q : Value → Shared → Prop} (hg : notAttr g = true)
    (h : wpAny M A (eval g env) (fun f s₁ => wpAny M A (callWith pos f [] (backTo pos (starEach args env)) (backToKw pos (keywordEach [] env))) Q E s₁) E s) : wpAny M A (eval (.Call g args [] pos) env) Q E s := by
  have e : eval (.Call g args [] pos) env = (do callWith pos (← eval g env) [] (backTo pos (starEach args env)) (backToKw pos (keywordEach [] env))) := by
    cases g <;> first | rfl | cases hg
  rw [e]
  exact wpAny_bind h
theorem e_callv {g : Expr} {eg : E} (K : T.Ok n) (C : Cool T n X W) (hne : isNilE es = false) (hn : notAttr g = true) (hg : PE X g (tE T n W eg)) (hs : notStar a = true) (hr : rest.all notStar = true) (ha : PA X (a :: rest) (tEs T n W es)) :
    PE X (.Call g (a :: rest) [] pos) (tE T n W (.callv eg es)) := by
  refine ⟨fun pins s σ H Q I ⟨μ, env, st, rs, q⟩ => ?_⟩
  rw [evE] at q
  have hread : tE T n W eg σ H fun v H1 => ∃ f fn, T.fs[f]? = some fn ∧ v = .ref (T.G.fa f) ∧ tEs T n W es σ H1 fun vs H2 => T.sp n f vs H2 Q (WE W σ) :=
    ⟨μ, env, st, rs, q.bind.mono fun x μ1 st1 H1 hx e1 s1 p1 v rv => by
      split at p1
      · rename_i f
        cases hf : T.fs[f]? with
        | none =>
          have z : T.ar f = 0 := by show (match T.fs[f]? with | some g => g.np | none => 0) = 0; rw [hf]
          rw [if_pos z, hne] at p1; exact p1.elim
        | some fn =>
          by_cases z : T.ar f = 0
          · rw [if_pos z, hne] at p1; exact p1.elim
          · rw [if_neg z] at p1
            exact ⟨f, fn, hf, rv, μ1, env, st1, rs.mono e1 s1, p1.bind.mono fun xs μ2 st2 H2 _ e2 s2 p2 vs rvs => ⟨μ2, st2, xs, s2, rvs, Post.fix p2⟩⟩
      · exact p1.elim⟩
  refine Call_fun hn (thn (hg.run pins s σ H _ I hread) fun u s1 ⟨v, H1, I1, r1, f, fn, hf, hv, q1⟩ => ?_)
  obtain ⟨h1, h2, F, h4⟩ := K.fn f fn hf
  have F' : FnOk X.prog X.w X.K X.mg X.base (L2.CX X.prog X.w) n (T.G.fa f) (T.fd f) (fn.N.take fn.np) (T.sp n f) := by rw [C.prog, C.w, C.K, C.mg, C.base]; exact F
  subst hv
  cases r1
  refine PySem.W.callWith_K (h₀ := X.base) I.ok.mod.kin (by rw [C.K]; exact h2) (thn (ha.run pos pins s1 σ _ _ I1 q1) fun us s2 ⟨vs, H2, I2, r, q⟩ => ⟨I2.kIn, ?_⟩) (starEach_cons hs _ _) (noStars hr _ _)
  exact run_fnS (E := WE W) F' C.room h4.binds (passAt C.takes σ) I2 r q
/-- g() -/
theorem e_callv0 {g : Expr} {eg : E} (K : T.Ok n) (C : Cool T n X W) (hn : notAttr g = true) (hg : PE X g (tE T n W eg)) : PE X (.Call g [] [] pos) (tE T n W (.callv eg .nil)) := by
  refine ⟨fun pins s σ H Q I ⟨μ, env, st, rs, q⟩ => ?_⟩
  rw [evE] at q
  have bads : ∀ f st, T.fs[f]? = none → callN T.gs T.fs n f [] st = .bad := fun f st z => by
    cases n with
    | zero => unfold callN; rfl
    | succ m => unfold callN; rw [z]
  have hread : tE T n W eg σ H fun v H1 => ∃ f fn, T.fs[f]? = some fn ∧ v = .ref (T.G.fa f) ∧ T.sp n f [] H1 Q (WE W σ) :=
    ⟨μ, env, st, rs, q.bind.mono fun x μ1 st1 H1 hx e1 s1 p1 v rv => by
      split at p1
      · rename_i f
        have p1 : Post T.G W μ1 H1 σ (callN T.gs T.fs n f [] st1) (Val T.G Q) := by
          by_cases z : T.ar f = 0
          · rw [if_pos z] at p1; exact p1
          · rw [if_neg z, evEs] at p1; exact p1
        cases hf : T.fs[f]? with
        | none => rw [bads f st1 hf] at p1; exact p1.elim
        | some fn => exact ⟨f, fn, hf, rv, μ1, st1, [], s1, rfl, Post.fix p1⟩
      · exact p1.elim⟩
  refine Call_fun hn (thn (hg.run pins s σ H _ I hread) fun u s1 ⟨v, H1, I1, r1, f, fn, hf, hv, q1⟩ => ?_)
  obtain ⟨h1, h2, F, h4⟩ := K.fn f fn hf
  have F' : FnOk X.prog X.w X.K X.mg X.base (L2.CX X.prog X.w) n (T.G.fa f) (T.fd f) (fn.N.take fn.np) (T.sp n f) := by rw [C.prog, C.w, C.K, C.mg, C.base]; exact F
  subst hv
  cases r1
  refine PySem.W.callWith_K0 I1.kIn (by rw [C.K]; exact h2) ?_
  exact run_fnS (E := WE W) (us := []) (vs := []) F' C.room h4.binds (passAt C.takes σ) I1 .nil q1
/-! ### slices with a step -/
theorem e_stp {m : Bool} {lo hi sp : Option Expr} {el eh ep : Es} {p2 : Pos} (C : Cok T n X W) (ha : PE X a (tE T n W ea)) (hl : PO X lo (tO T n W el)) (hh : PO X hi (tO T n W eh)) (hp : PO X sp (tO T n W ep)) (hs : sp.isSome = true) :
    PE X (.Subscript a (.Slice lo hi sp p2) pos) (tE T n W (.stp m ea el eh ep)) := by
  refine ⟨fun pins s σ H Q I ⟨μ, env, st, rs, q⟩ => ?_⟩
  rw [evE] at q
  have hread : tE T n W ea σ H fun x H1 => tO T n W el σ H1 fun l H2 => tO T n W eh σ H2 fun h H3 => tO T n W ep σ H3 fun o H4 => ∃ c xs, x = .ref c ∧ SqL T.G.K H4 c xs ∧ o ≠ some 0 ∧ (pick (stpI xs.length l h o) xs).length ≤ sizeLine ∧ ∀ p, H4 p = none → Q (.ref p) (upd H4 p (.lst (pick (stpI xs.length l h o) xs))) :=
    ⟨μ, env, st, rs, q.bind.mono fun x μ1 st1 H1 _ e1 s1 q1 v rv => ⟨μ1, env, st1, rs.mono e1 s1, q1.bind.mono fun l μ2 st2 H2 _ e2 s2 q2 => ⟨μ2, env, st2, (rs.mono e1 s1).mono e2 s2, q2.bind.mono fun h μ3 st3 H3 _ e3 s3 q3 =>
      ⟨μ3, env, st3, ((rs.mono e1 s1).mono e2 s2).mono e3 s3, q3.bind.mono fun o μ4 st4 H4 _ e4 s4 q4 => by
        have rv := ((rv.mono e2).mono e3).mono e4
        have key : (∀ ys, x ≠ .tup ys) ∧ ∃ xs, items st4 x = some xs ∧ o ≠ some 0 ∧ Post T.G W μ4 H4 σ (mkL m (pick (stpI xs.length l h o) xs) st4) (Val T.G Q) := by
          cases x <;> first | exact (q4 : False).elim | skip
          all_goals refine ⟨fun ys z => (by cases z), ?_⟩
          all_goals
            dsimp only at q4
            split at q4
            · rename_i xs e
              by_cases ho : o = some 0
              · rw [if_pos ho] at q4; exact q4.elim
              · rw [if_neg ho] at q4; exact ⟨xs, e, ho, q4⟩
            · exact (q4 : False).elim
        obtain ⟨hne, xs, e, ho, q5⟩ := key
        have sq : ∃ c ws, v = .ref c ∧ SqL T.G.K H4 c ws ∧ Reps T.G μ4 H4 xs ws := by
          cases x with
          | tup ys => exact absurd rfl (hne ys)
          | scr ys =>
            have ey : ys = xs := by simpa [items] using e
            subst ey
            exact scr_sql rv
          | pl ys =>
            obtain ⟨a, vs, q1, q2, q3⟩ := rep_litems s4 rv (show litems st4 (.pl ys) = some xs from e)
            exact ⟨a, vs, q1, SqL.of q2, q3⟩
          | ml i =>
            obtain ⟨a, vs, q1, q2, q3⟩ := rep_litems s4 rv (show litems st4 (.ml i) = some xs from e)
            exact ⟨a, vs, q1, SqL.of q2, q3⟩
          | _ => cases e
        obtain ⟨c, ws, rfl, sq1, sq2⟩ := sq
        refine ⟨c, ws, rfl, sq1, ho, ?_⟩
        rw [← sq2.length]
        exact q5.mkL s4 (sq2.pick)⟩⟩⟩⟩
  cases sp with
  | none => cases hs
  | some sp =>
  refine Subscript_ (thn (ha.run pins s σ H _ I hread) fun v s1 ⟨x, H1, I1, r1, q1⟩ => ?_)
  refine wpAny_Slice (thn (hl.run pins s1 σ H1 _ I1 q1) fun vl s2 ⟨l, H2, I2, pl, q2⟩ => ?_)
  refine thn (hh.run pins s2 σ H2 _ I2 q2) fun vu s3 ⟨u, H3, I3, pu, q3⟩ => ?_
  refine thn (hp.run pins s3 σ H3 _ I3 q3) fun vs s4 ⟨o, H4, I4, ps, c, xs, ex, hx, ho, hle, q⟩ => ?_
  subst ex
  cases r1
  have I5 : L2.Inv X pins σ H4 { s4 with heap := s4.heap.push { cls := .type "slice", data := .fields #[vl, vu, vs] } } := I4.kept (t' := s4.toks) fun b ob q => Heap.get?_push_of_some _ q
  obtain ⟨its, r, ht, hz⟩ := I5.list (show SqL X.K H4 c xs by rw [C.K]; exact hx)
  have hlen := r.length
  show wpAny (model X.prog X.w) X.A (subscriptTail a (.Slice lo hi (some sp) p2) (.ref c) (.ref s4.heap.objs.size)) (EP X pins σ Q) X.xe { s4 with heap := s4.heap.push { cls := .type "slice", data := .fields #[vl, vu, vs] } }
  refine tail_any (ops := [.ref c, .ref s4.heap.objs.size]) ht.isList.typeIs (PySem.slot_list_getitem.lookup) ?_ (by cases lo <;> cases hi <;> with_unfolding_all rfl)
  refine wpAny_getItem_list_slice ht.isList (Heap.IsSliceOf.new _ vl vu vs) pl pu ps ho ?_ (by rw [List.size_toArray]; omega)
  have hp : slicePick its.toArray l u o = (pick (stpI xs.length l u o) its).toArray := by
    unfold slicePick stpI pick
    rw [List.size_toArray, hlen]
    congr 1
    congr 1
    funext j
    simp
  rw [hp]
  have rr := vals_pick (idx := stpI xs.length l u o) r
  refine ⟨.ref _, _, I5.laid (t' := s4.toks) (o := .lst (pick (stpI xs.length l u o) xs)) (fun b ob q => Heap.get?_push_of_some _ q) (Nat.le_refl _) ?_, rfl, q _ (I5.hok.fresh (Nat.le_refl _))⟩
  exact ⟨hle, _, 0, rr, Heap.get?_push_size _ rfl⟩
end
end Ev

/-! EvTx: texts' methods. -/
namespace Ev
open PySem PySem.Spec PyProof.Rows L2
theorem reps_strs {G : Pl} {μ : Mu} {H : Hp} : ∀ {xs : List PV} {ns : List (List Nat)} {vs : List V}, strsV xs = some ns → Reps G μ H xs vs → vs = (ns.map SX.S).map V.str
  | [], ns, vs, e, h => by
    have : ns = [] := by simpa [strsV] using e.symm
    subst this
    exact h
  | .str i :: r, ns, vs, e, h => by
    simp only [strsV, Option.map_eq_some_iff] at e
    obtain ⟨ms, e1, e2⟩ := e
    obtain ⟨v, w, h1, h2, h3⟩ := h
    have h2' : v = .str ⟨i.toArray⟩ := h2
    subst e2 h1 h2'
    rw [reps_strs e1 h3, List.map_cons, List.map_cons]
  | .non :: r, _, _, e, _ => by simp [strsV] at e
  | .bl _ :: r, _, _, e, _ => by simp [strsV] at e
  | .int _ :: r, _, _, e, _ => by simp [strsV] at e
  | .tup _ :: r, _, _, e, _ => by simp [strsV] at e
  | .pl _ :: r, _, _, e, _ => by simp [strsV] at e
  | .scr _ :: r, _, _, e, _ => by simp [strsV] at e
  | .ml _ :: r, _, _, e, _ => by simp [strsV] at e
  | .fn _ :: r, _, _, e, _ => by simp [strsV] at e
  | .exn :: r, _, _, e, _ => by simp [strsV] at e
theorem strs_reps {G : Pl} {μ : Mu} {H : Hp} : ∀ ns : List (List Nat), Reps G μ H (ns.map .str) ((ns.map SX.S).map V.str)
  | [] => rfl
  | x :: r => ⟨_, _, rfl, rfl, strs_reps r⟩
section
variable {T : Tp} {n : Nat} {X : Cx} {W : WX} {a b : Expr} {ea eb : E} {apos pos : Pos}
theorem i_smeth {k : Sm} {m : Bool} {σ : L2.St} {H : Hp} {Q : VK} {r : V → List V → Hp → VK → Prop} (hn : ∀ x, eb ≠ .star x) (h : tE T n W (.smeth k m ea (.cons eb .nil)) σ H Q)
    (hr : ∀ μ H st z y v, RepSt T.G μ H st → Rep T.G μ H y v → Post T.G W μ H σ (smeth m st k (.str z) [y]) (Val T.G Q) → r (.str (SX.S z)) [v] H Q) : tM1 r (tE T n W ea) (tE T n W eb) σ H Q := by
  obtain ⟨μ, env, st, rs, q⟩ := h
  rw [evE] at q
  refine ⟨μ, env, st, rs, q.bind.mono fun x μ1 st1 H1 _ e1 s1 p1 v rv => ?_⟩
  split at p1
  · rename_i z _
    rw [evEs.eq_3 _ _ _ _ _ _ _ (fun x h => hn x h)] at p1
    cases (show v = .str ⟨z.toArray⟩ from rv)
    refine ⟨⟨_, rfl⟩, μ1, env, st1, rs.mono e1 s1, p1.bind.bind.mono fun y μ2 st2 H2 _ e2 s2 p2 w rw_ => ?_⟩
    rw [evEs] at p2
    exact hr μ2 H2 st2 z y w s2 rw_ (Post.ok (a := [y]) p2 s2)
  · exact p1.elim
theorem e_split {m : Bool} (hn : ∀ x, eb ≠ .star x) (ha : PE X a (tE T n W ea)) (hb : PE X b (tE T n W eb)) (hs : notStar b = true) (hbase : attributeBase a "split" X.env (eval a X.env) = eval a X.env) (hline : (apos.endLine == pos.line) = true) :
    PE X (.Call (.Attribute a "split" apos) [b] [] pos) (tE T n W (.smeth .split m ea (.cons eb .nil))) :=
  PE.imp (pe_split ha hb (by rw [starEach_cons hs]; rfl) hbase hline) fun σ H Q h => i_smeth hn h fun μ H st z y v s0 rv p => by
    unfold smeth at p
    split at p <;> first | exact (p : False).elim | contradiction | skip
    rename_i a' c _ e1 e2
    cases e1
    cases e2
    cases (show v = .str ⟨c.toArray⟩ from rv)
    split at p <;> first | exact (p : False).elim | skip
    rename_i hc
    rw [Bool.and_eq_true, Bool.and_eq_true, Bool.not_eq_true', List.isEmpty_eq_false_iff, decide_eq_true_eq] at hc
    refine ⟨_, _, rfl, rfl, ?_, ?_, ?_⟩
    · rw [SX.S_len]
      exact beq_eq_false_iff_ne.mpr fun z => hc.1 (List.length_eq_zero_iff.mp z)
    · rw [SX.S_len, sizeLine_eq]; exact hc.2.2
    · show rNewStrs (Txt.split (SX.S _) (SX.S c)) H Q
      rw [SX.split_S hc.1 hc.2.1]
      exact (p.mkL s0 (strs_reps _)).2
theorem e_join {m : Bool} (C : Cok T n X W) (hn : ∀ x, eb ≠ .star x) (ha : PE X a (tE T n W ea)) (hb : PE X b (tE T n W eb)) (hs : notStar b = true) (hbase : attributeBase a "join" X.env (eval a X.env) = eval a X.env) (hline : (apos.endLine == pos.line) = true) :
    PE X (.Call (.Attribute a "join" apos) [b] [] pos) (tE T n W (.smeth .join m ea (.cons eb .nil))) :=
  PE.imp (pe_join ha hb (by rw [starEach_cons hs]; rfl) hbase hline) fun σ H Q h => i_smeth hn h fun μ H st z y v s0 rv p => by
    have p : Post T.G W μ H σ (match (items st y).bind strsV with
      | some ys => if decide ((ys.map (·.length)).sum + ys.length * z.length ≤ 16777216) then .ok (.str (TL.joinL z ys)) st else .bad
      | none => .bad) (Val T.G Q) := p
    split at p <;> first | exact (p : False).elim | skip
    rename_i ys ey
    split at p <;> first | exact (p : False).elim | skip
    rename_i hc
    obtain ⟨xs, z1, z2⟩ := Option.bind_eq_some_iff.mp ey
    obtain ⟨l, ws, rfl, q1, q2⟩ := rep_items s0 rv z1
    rw [reps_strs z2 q2] at q1
    refine ⟨_, l, ys.map SX.S, rfl, rfl, C.K ▸ q1, ?_, ?_⟩
    · rw [SX.lens, List.length_map, SX.S_len]; exact of_decide_eq_true hc
    · rw [SX.join_S]; exact Post.ok p s0 _ rfl
theorem e_sindex {m : Bool} (hn : ∀ x, eb ≠ .star x) (ha : PE X a (tE T n W ea)) (hb : PE X b (tE T n W eb)) (hs : notStar b = true) (hbase : attributeBase a "index" X.env (eval a X.env) = eval a X.env) (hline : (apos.endLine == pos.line) = true) :
    PE X (.Call (.Attribute a "index" apos) [b] [] pos) (tE T n W (.smeth .index m ea (.cons eb .nil))) :=
  PE.imp (pe_m1 PySem.F.slot_str_index PySem.F.type_str_index mt_sindex ha hb (by rw [starEach_cons hs]; rfl) hbase hline) fun σ H Q h => i_smeth hn h fun μ H st z y v s0 rv p => by
    unfold smeth at p
    split at p <;> first | exact (p : False).elim | contradiction | skip
    rename_i a' c _ e1 e2
    cases e1
    cases e2
    cases (show v = .str ⟨c.toArray⟩ from rv)
    split at p <;> first | exact (p : False).elim | skip
    rename_i i rest eo
    exact ⟨_, _, i, rest, rfl, rfl, by rw [SX.S_len]; exact eo, Post.ok p s0 _ rfl⟩
end
end Ev

/-! EvDt: dicts made, asked. -/
namespace Ev
open PySem PySem.Spec PyProof.Rows L2
section
variable {X : Cx} {pos : Pos}
/-- {}, its keys to be tuples -/
def tNewO (w : World) : TE := fun _ H Q => ∀ (p : Addr) (o : Obj), H p = none → DictO w p o [] → Q (.ref p) (upd H p (dO p o))
theorem pe_newO : PE X (.Dict [] [] pos) (tNewO X.w) := ⟨fun pins s σ H Q I h => by
  refine wpAny_Dict_empty ?_
  have at_ : (s.heap.push { cls := .type "dict", data := .dict #[] }).get? s.heap.objs.size = some { cls := .type "dict", data := .dict #[] } := Heap.get?_push_size _ rfl
  have fit : ObjOk X.prog X.w (upd H s.heap.objs.size (dO s.heap.objs.size { cls := .type "dict", data := .dict #[] })) (s.heap.push { cls := .type "dict", data := .dict #[] }) s.heap.objs.size (dO s.heap.objs.size { cls := .type "dict", data := .dict #[] }) := dO_ok at_
  exact ⟨.ref s.heap.objs.size, _, I.laid (a := s.heap.objs.size) (o := dO s.heap.objs.size _) (t' := s.toks) (fun _ _ q => Heap.get?_push_of_some _ q) (Nat.le_refl _) fit, rfl,
    h _ _ (I.hok.fresh (Nat.le_refl _)) ⟨⟨rfl, rfl, rfl⟩, ⟨#[], rfl, rfl⟩, List.nodup_nil, beq_eq_false_iff_ne.mpr (Ne.symm (Nat.ne_of_lt I.big))⟩⟩⟩
end
section
variable {G : Pl} {μ : Mu} {H : Hp}
theorem putK_hit {k0 kk : L2.Key} {w0 w : V} {kvs : List (L2.Key × V)} (e : k0 = kk) (n : kk ∉ kvs.map (·.1)) : putK ((k0, w0) :: kvs) kk w = (k0, w) :: kvs := by
  subst e
  unfold putK
  rw [if_pos (by simp), List.map_cons, if_pos rfl]
  congr 1
  refine (List.map_congr_left fun x hx => ?_).trans (List.map_id _)
  rw [if_neg fun z => n (List.mem_map.mpr ⟨x, hx, z⟩)]; rfl
theorem putK_miss {k0 kk : L2.Key} {w0 w : V} {kvs : List (L2.Key × V)} (e : ¬ k0 = kk) : putK ((k0, w0) :: kvs) kk w = (k0, w0) :: putK kvs kk w := by
  unfold putK
  have : (((k0, w0) :: kvs).any fun kv => decide (kv.1 = kk)) = kvs.any fun kv => decide (kv.1 = kk) := by simp [e]
  rw [this]
  split
  · rw [List.map_cons, if_neg e]
  · rfl
theorem putK_keys {kk : L2.Key} {w : V} : ∀ {kvs : List (L2.Key × V)}, (kvs.map (·.1)).Nodup → ((putK kvs kk w).map (·.1)).Nodup ∧ ∀ k, k ∈ (putK kvs kk w).map (·.1) → k = kk ∨ k ∈ kvs.map (·.1)
  | [], _ => by simp [putK]
  | (k0, w0) :: kvs, nd => by
    rw [List.map_cons, List.nodup_cons] at nd
    by_cases e : k0 = kk
    · rw [putK_hit e (by rw [← e]; exact nd.1)]
      refine ⟨?_, fun k hk => .inr hk⟩
      rw [List.map_cons, List.nodup_cons]; exact nd
    · rw [putK_miss e]
      obtain ⟨h1, h2⟩ := putK_keys (kk := kk) (w := w) nd.2
      refine ⟨?_, fun k hk => ?_⟩
      · rw [List.map_cons, List.nodup_cons]
        exact ⟨fun z => (h2 k0 z).elim e nd.1, h1⟩
      · rw [List.map_cons, List.mem_cons] at hk
        rw [List.map_cons, List.mem_cons]
        rcases hk with hk | hk
        · exact .inr (.inl hk)
        · exact (h2 k hk).imp id .inr
theorem flatK_cons {k : L2.Key} {w : V} {kvs : List (L2.Key × V)} : flatK ((k, w) :: kvs) = kV k :: w :: flatK kvs := by simp [flatK]
/-- a store under a number or a text -/
theorem leaf_put {k v : PV} {kk : L2.Key} {w : V} (hk : leafK k = some kk) (rk : Rep G μ H k (kV kk)) (rv : Rep G μ H v w) : ∀ {kvs : List (L2.Key × V)} {xs : List PV}, (kvs.map (·.1)).Nodup → leafsB xs = true → Reps G μ H xs (flatK kvs) → leafsB (dput k v xs) = true ∧ Reps G μ H (dput k v xs) (flatK (putK kvs kk w))
  | [], xs, _, _, r => by
    have : xs = [] := List.length_eq_zero_iff.mp (by rw [r.length]; rfl)
    subst this
    have hb : leafB k = true := by cases k <;> first | rfl | cases hk
    refine ⟨by simp [dput, leafsB, hb], ?_⟩
    have : putK ([] : List (L2.Key × V)) kk w = [(kk, w)] := by simp [putK]
    rw [this, flatK_cons]
    exact ⟨_, _, rfl, rk, _, _, rfl, rv, rfl⟩
  | (k0, w0) :: kvs, xs, nd, hl, r => by
    rw [flatK_cons] at r
    rw [List.map_cons, List.nodup_cons] at nd
    match xs, r with
    | x :: z :: xs, ⟨v1, r1, e1, h1, w1, r2, e2, h2, h3⟩ =>
      subst e2
      simp only [List.cons.injEq] at e1
      obtain ⟨rfl, rfl, rfl⟩ := e1
      have hl' : leafB x = true ∧ leafsB xs = true := by simpa [leafsB] using hl
      have hx := leaf_rep' hl'.1 h1
      rw [dput, leafK_peq hx hk]
      by_cases c : k0 = kk
      · rw [if_pos (decide_eq_true c), putK_hit c (by rw [← c]; exact nd.1), flatK_cons]
        exact ⟨by simp [leafsB, hl'.1, hl'.2], _, _, rfl, h1, _, _, rfl, rv, h3⟩
      · rw [if_neg (by simpa using c), putK_miss c, flatK_cons]
        obtain ⟨q1, q2⟩ := leaf_put hk rk rv nd.2 hl'.2 h3
        exact ⟨by simp [leafsB, hl'.1, q1], _, _, rfl, h1, _, _, rfl, h2, q2⟩
    | [], r => cases r
    | [_], ⟨_, _, e1, _, e2⟩ =>
      rw [show _ = [] from e2] at e1
      simp at e1
/-- a display's pairs -/
theorem leaf_puts : ∀ {more kvs : List (L2.Key × V)} {xs acc : List PV}, (kvs.map (·.1)).Nodup → leafsB acc = true → Reps G μ H acc (flatK kvs) → leafsB xs = true → Reps G μ H xs (flatK more) → leafsB (dputs acc xs) = true ∧ Reps G μ H (dputs acc xs) (flatK (mergeK kvs more))
  | [], kvs, xs, acc, _, h1, h2, _, r => by
    have : xs = [] := List.length_eq_zero_iff.mp (by rw [r.length]; rfl)
    subst this
    exact ⟨h1, h2⟩
  | (k0, w0) :: more, kvs, xs, acc, nd, h1, h2, hl, r => by
    rw [flatK_cons] at r
    match xs, r with
    | x :: z :: xs, ⟨v1, r1, e1, g1, w1, r2, e2, g2, g3⟩ =>
      subst e2
      simp only [List.cons.injEq] at e1
      obtain ⟨rfl, rfl, rfl⟩ := e1
      have hl' : leafB x = true ∧ leafsB xs = true := by simpa [leafsB] using hl
      have hx := leaf_rep' hl'.1 g1
      obtain ⟨q1, q2⟩ := leaf_put hx g1 g2 nd h1 h2
      exact leaf_puts (kvs := putK kvs k0 w0) (acc := dput x z acc) (putK_keys nd).1 q1 q2 hl'.2 g3
    | [], r => cases r
    | [_], ⟨_, _, e1, _, e2⟩ =>
      rw [show _ = [] from e2] at e1
      simp at e1
theorem leafs_flat : ∀ {xs : List PV} {vs : List V}, leafsB xs = true → Reps G μ H xs vs → ∃ kvs, vs = flatK kvs ∧ 2 * kvs.length = xs.length
  | [], vs, _, r => ⟨[], r, rfl⟩
  | [_], vs, h, _ => by simp [leafsB] at h
  | x :: z :: xs, vs, h, ⟨v, r, e1, h1, w, r', e2, h2, h3⟩ => by
    subst e2 e1
    have h' : leafB x = true ∧ leafsB xs = true := by simpa [leafsB] using h
    obtain ⟨k, ek⟩ := leafK_of h'.1
    obtain ⟨kvs, rfl, hl⟩ := leafs_flat h'.2 h3
    refine ⟨(k, w) :: kvs, by rw [flatK_cons, leaf_rep ek h1], ?_⟩
    simp only [List.length_cons]; omega
def flat2 (ps : List (V × V)) : List V := ps.flatMap fun p => [p.1, p.2]
theorem flat2_K : ∀ {ps : List (V × V)} {kvs : List (L2.Key × V)}, flat2 ps = flatK kvs → ps = kvs.map fun kv => (kV kv.1, kv.2)
  | [], [], _ => rfl
  | [], (_, _) :: _, h => by simp [flat2, flatK] at h
  | (_, _) :: _, [], h => by simp [flat2, flatK] at h
  | (a, b) :: ps, (k, w) :: kvs, h => by
    have h' : a = kV k ∧ b = w ∧ flat2 ps = flatK kvs := by simpa [flat2, flatK] using h
    rw [List.map_cons, ← flat2_K h'.2.2, h'.1, h'.2.1]
/-- what was hidden is seen -/
theorem unhide {st st' : Sto} {D : Addr} {μ' : Mu} {H' : Hp} {u : HO} (s0 : RepSt G μ H st) (hD : H D = none) (w : Wex (μ.hide D) (upd H D u) μ' H') (hold : ∀ a ∈ μ.hid, H' a = H a) (s : RepSt G μ' H' st') :
    ∃ ν, μ' = (⟨μ.vis ++ ν, μ.hid⟩ : Mu).hide D ∧ Ext μ H ⟨μ.vis ++ ν, μ.hid⟩ H' ∧ D ∉ (⟨μ.vis ++ ν, μ.hid⟩ : Mu).all := by
  obtain ⟨ν, e, hν⟩ := w.pre
  subst e
  have fr := s0.fresh hD
  have neD : ∀ a ∈ μ.vis, a ≠ D := fun a ha z => fr (Mu.of_vis (by rw [← z]; exact ha))
  refine ⟨ν, rfl, ⟨⟨s0.lst, fun a ha h => w.kl a ha (by rw [upd_ne (neD a ha)]; exact h), fun a ha h => w.kd a ha (by rw [upd_ne (neD a ha)]; exact h), ⟨ν, rfl, fun a ha => ?_⟩, fun a o h hm => ?_⟩, hold⟩, fun z => ?_⟩
  · have q := hν a ha
    by_cases z : a = D
    · rw [z]; exact hD
    · rw [upd_ne z] at q; exact q
  · have ne : a ≠ D := ne_of_none h hD
    exact w.keep a o (by rw [upd_ne ne]; exact h) fun z => (Mu.mem_hide.mp z).elim ne hm
  · rcases List.mem_append.mp z with z | z
    · exact s.dis D List.mem_cons_self z
    · exact fr (Mu.of_hid z)
theorem dic_ref : ∀ {x : PV} {v : V}, isDic x = true → Rep G μ H x v → ∃ c, v = .ref c
  | .dic true _, _, _, ⟨c, _, _, _, e, _⟩ => ⟨c, e⟩
  | .dic false _, _, _, ⟨c, _, _, e, _⟩ => ⟨c, e⟩
  | .md _, _, _, ⟨c, e, _⟩ => ⟨c, e⟩
/-- a is a dict -/
def DctAt (G : Pl) (H : Hp) (a : Addr) : Prop := ∃ μ st px, RepSt G μ H st ∧ Rep G μ H px (.ref a) ∧ isDic px = true
theorem dct_at {X : Cx} {pins : List (Addr × Obj)} {σ : L2.St} {s : Shared} {a : Addr} (I : Inv X pins σ H s) (d : DctAt G H a) : s.TypeIs (.ref a) "dict" ∧ ∀ b, Value.ref a = .ref b → ∃ ob, s.heap.get? b = some ob ∧ ob.dict = none := by
  obtain ⟨μ, st, px, s0, r, hd⟩ := d
  have ofO : ∀ {o : Obj} {ys : List Ent}, H a = some (dO a o) → DictO G.w a o ys → s.TypeIs (.ref a) "dict" ∧ ∀ b, Value.ref a = .ref b → ∃ ob, s.heap.get? b = some ob ∧ ob.dict = none := fun h D =>
    ⟨⟨_, dO_at I h, D.ex.1⟩, fun b q => by cases q; exact ⟨_, dO_at I h, D.ex.2.1⟩⟩
  cases px <;> first | (cases hd; done) | skip
  · rename_i t xs
    cases t
    · obtain ⟨b, vs, kvs, e, _, h, _⟩ := r
      cases e
      have := isD_at I (.inl ⟨kvs, .inl h⟩)
      exact ⟨this.1, this.2.1⟩
    · obtain ⟨b, vs, o, ys, e, _, h, D, _⟩ := r
      cases e
      exact ofO h D
  · rename_i i
    obtain ⟨b, e, h1, h2⟩ := r
    cases e
    have hl : i < st.length := by rw [← s0.len]; exact (List.getElem?_eq_some_iff.mp h1).1
    obtain ⟨vs, o, ys, q1, q2, _⟩ := s0.atD i _ (List.getElem?_eq_getElem hl) h1 h2
    exact ofO q1 q2
end
section
variable {T : Tp} {n : Nat} {X : Cx} {W : WX} {pos apos : Pos} {a b d : Expr} {ea eb ed : E}
theorem e_dnew {m : Bool} (C : Cok T n X W) : PE X (.Dict [] [] pos) (tE T n W (.dnew m)) := PE.imp pe_newO fun σ H Q ⟨μ, env, st, rs, q⟩ p o hp D => by
  rw [evE] at q
  rw [C.gw] at D
  cases m with
  | true =>
    rw [if_pos rfl] at q
    refine q _ _ (Ext.newL rs.st hp) (rs.st.newC hp ⟨[], rfl, .inr ⟨o, [], upd_same, D, rfl, rfl⟩⟩) (.ref p) ⟨p, rfl, ?_, o, upd_same⟩
    show (μ.vis ++ [p])[st.length]? = some p
    have hl : μ.vis.length = st.length := rs.st.len
    rw [List.getElem?_append_right (by rw [hl]; omega), hl, Nat.sub_self]; rfl
  | false =>
    rw [if_neg Bool.false_ne_true] at q
    exact q μ _ (Ext.new rs.st hp) (rs.st.new hp) (.ref p) ⟨p, [], o, [], rfl, rs.st.fresh hp, upd_same, D, rfl, rfl, rfl⟩
/-- the pairs of a display -/
def prs (T : Tp) (n : Nat) (W : WX) : Es → List (TE × TE)
  | .cons k (.cons v r) => (tE T n W k, tE T n W v) :: prs T n W r
  | _ => []
def noStarP : Es → Bool
  | .nil => true
  | .cons k (.cons v r) => (match k with | .star _ => false | _ => true) && (match v with | .star _ => false | _ => true) && noStarP r
  | .cons _ .nil => false
theorem nostar_ne {e : E} (h : (match e with | .star _ => false | _ => true) = true) : ∀ y, e ≠ .star y := fun y z => by subst z; cases h
theorem pairs_of : ∀ {es : Es} {σ : L2.St} {H : Hp} {Q : List (V × V) → Hp → Prop}, noStarP es = true → tEs T n W es σ H (fun vs H' => ∀ ps, flat2 ps = vs → Q ps H') → tPairs (prs T n W es) σ H Q
  | .nil, σ, H, Q, _, ⟨μ, env, st, rs, q⟩ => by
    rw [evEs] at q
    exact Post.ok q rs.st [] rfl [] rfl
  | .cons k .nil, σ, H, Q, h, _ => by cases h
  | .cons k (.cons v r), σ, H, Q, h, ⟨μ, env, st, rs, q⟩ => by
    simp only [noStarP, Bool.and_eq_true] at h
    rw [evEs.eq_3 _ _ _ _ _ _ _ (fun y z => nostar_ne h.1.1 y z)] at q
    refine ⟨μ, env, st, rs, q.bind.mono fun x μ1 st1 H1 _ e1 s1 p1 u ru => ⟨μ1, env, st1, rs.mono e1 s1, ?_⟩⟩
    rw [evEs.eq_3 _ _ _ _ _ _ _ (fun y z => nostar_ne h.1.2 y z)] at p1
    refine p1.bind.bind.mono fun y μ2 st2 H2 _ e2 s2 p2 w rw_ => ?_
    refine pairs_of (Q := fun ps H' => Q ((u, w) :: ps) H') h.2 ⟨μ2, env, st2, (rs.mono e1 s1).mono e2 s2, p2.bind.mono fun zs μ3 st3 H3 _ e3 s3 p3 vs rvs ps hps => ?_⟩
    have z := Post.ok (Post.ok p3 s3) s3 (u :: w :: vs) ⟨_, _, rfl, (ru.mono e2).mono e3, _, _, rfl, rw_.mono e3, rvs⟩
    exact z ((u, w) :: ps) (by rw [← hps]; rfl)
theorem e_ddisp {es : Es} {keys : List (Option Expr)} {values : List Expr} (C : Cok T n X W) (hp : noStarP es = true) (h : PPs X pos keys values (prs T n W es)) (hall : keys.all (·.isSome) = true) (hl : keys.length = values.length) (h0 : keys ≠ [])
    (h15 : keys.length ≤ 15) : PE X (.Dict keys values pos) (tE T n W (.ddisp es)) := PE.imp (pe_disp h hall hl h0 h15) fun σ H Q ⟨μ, env, st, rs, q⟩ p hn => by
  rw [evE] at q
  cases hv : evEs (T.cl n) T.gs T.ar es env st with
  | ex k a s => rw [hv] at q; exact q.elim
  | bad => rw [hv] at q; exact q.elim
  | ok xs st1 =>
    rw [hv] at q
    have q : Post T.G W μ H σ (if leafsB xs && decide (xs.length ≤ 30) then .ok (.dic false (dputs [] xs)) st1 else .bad) (Val T.G Q) := q
    split at q <;> first | exact (q : False).elim | skip
    rename_i hc
    rw [Bool.and_eq_true, decide_eq_true_eq] at hc
    refine pairs_of (T := T) (n := n) (W := W) hp ⟨μ.hide p, env, st, ⟨rs.st.hideC hn (.inr (.inr ⟨[], upd_same⟩)), rs.env.widen (Wid.hide hn)⟩, ?_⟩
    rw [hv]
    intro μ' H' e s vs r ps hps
    have hD : p ∈ μ'.hid := by
      obtain ⟨ν, e1, _⟩ := e.pre
      rw [e1]; exact List.mem_cons_self
    have at_ : H' p = some (.dK []) := by rw [e.hold p List.mem_cons_self]; exact upd_same
    obtain ⟨kvs, rfl, hlen⟩ := leafs_flat hc.1 r
    refine ⟨at_, kvs, flat2_K hps, by omega, ?_⟩
    have w := Wex.growC (u := .dK (mergeK [] kvs)) s hD
    have s2 := s.growC (u := .dK (mergeK [] kvs)) hD (.inr (.inr ⟨_, upd_same⟩))
    obtain ⟨ν, rfl, ex, nall⟩ := unhide rs.st hn (e.toWex.trans w) (fun a ha => by
      have ne : a ≠ p := fun z => rs.st.fresh hn (by rw [← z]; exact Mu.of_hid ha)
      rw [upd_ne ne, e.hold a (List.mem_cons_of_mem _ ha), upd_ne ne]) s2
    obtain ⟨l1, l2⟩ := leaf_puts (kvs := []) (acc := []) List.nodup_nil rfl rfl hc.1 (r.wono w)
    exact q _ _ ex s2.show_ (.ref p) ⟨p, _, _, rfl, nall, upd_same, l1, rfl, Reps.show_ ⟨[], by simp⟩ (fun a h z => h (Mu.mem_hide.mpr (.inr z))) _ _ l2⟩
/-- d.get(k) -/
def tGet1 (G : Pl) (td ty : TE) : TE := fun σ H Q => td σ H fun x H1 => ∃ a, x = .ref a ∧ DctAt G H1 a ∧ ty σ H1 fun y H2 => ∃ (μ : Mu) (st : Sto) (px py : PV) (o : Option PV), RepSt G μ H2 st ∧ Rep G μ H2 px (.ref a) ∧ Rep G μ H2 py y ∧ dAt st px py = some o ∧ ∀ w, Rep G μ H2 (o.getD .non) w → Q w H2
def tGet2 (G : Pl) (td ty tz : TE) : TE := fun σ H Q => td σ H fun x H1 => ∃ a, x = .ref a ∧ DctAt G H1 a ∧ ty σ H1 fun y H2 => tz σ H2 fun z H3 => ∃ (μ : Mu) (st : Sto) (px py pz : PV) (o : Option PV), RepSt G μ H3 st ∧ Rep G μ H3 px (.ref a) ∧ Rep G μ H3 py y ∧ Rep G μ H3 pz z ∧ dAt st px py = some o ∧ ∀ w, Rep G μ H3 (o.getD pz) w → Q w H3
theorem pe_get1 {td ty : TE} (C : Cok T n X W) (ho : PE X a td) (he : PE X b ty) (m : M1 X a "get" apos b pos) : PE X (.Call (.Attribute a "get" apos) [b] [] pos) (tGet1 T.G td ty) := by
  refine ⟨fun pins s σ H Q I h => ?_⟩
  refine wpAny_Call_method m.base m.few m.line PySem.F.plainAttrs_dict PySem.F.slot_dict_get PySem.F.type_dict_get (thn (ho.run pins s σ H _ I h) fun u s1 ⟨x, H1, I1, rx, c, ex, dc, q1⟩ => ?_)
  subst ex
  obtain rfl : u = Value.ref c := rx
  obtain ⟨t1, t2⟩ := dct_at I1 dc
  refine ⟨t1, t2, ?_⟩
  rw [m.trees]
  refine Calls.callWith_builtin rfl (Calls.evalArgs_plain (Calls.spliced_cons (thn (he.run pins s1 σ H1 _ I1 q1) fun iv s2 ⟨y, H2, I2, ry, μ, st, px, py, o, g1, g2, g3, g4, q2⟩ => Calls.spliced_nil ?_)))
  obtain ⟨c', e, D⟩ := dlook C.K C.gw I2 g1 g2 g3 g4
  cases e
  exact dl_get1 C.un I2 D ry fun w w' s3 I3 r rw' => ⟨w, H2, I3, rw', q2 w r⟩
theorem pe_get2 {td ty tz : TE} (C : Cok T n X W) (ho : PE X a td) (he : PE X b ty) (hf : PE X d tz) (m : M2 X a "get" apos b d pos) : PE X (.Call (.Attribute a "get" apos) [b, d] [] pos) (tGet2 T.G td ty tz) := by
  refine ⟨fun pins s σ H Q I h => ?_⟩
  refine wpAny_Call_method m.base m.few m.line PySem.F.plainAttrs_dict PySem.F.slot_dict_get PySem.F.type_dict_get (thn (ho.run pins s σ H _ I h) fun u s1 ⟨x, H1, I1, rx, c, ex, dc, q1⟩ => ?_)
  subst ex
  obtain rfl : u = Value.ref c := rx
  obtain ⟨t1, t2⟩ := dct_at I1 dc
  refine ⟨t1, t2, ?_⟩
  rw [m.trees]
  refine Calls.callWith_builtin rfl (Calls.evalArgs_plain (Calls.spliced_cons (thn (he.run pins s1 σ H1 _ I1 q1) fun iv s2 ⟨y, H2, I2, ry, q2⟩ =>
    Calls.spliced_cons (thn (hf.run pins s2 σ H2 _ I2 q2) fun fv s3 ⟨z, H3, I3, rz, μ, st, px, py, pz, o, g1, g2, g3, g4, g5, q3⟩ => Calls.spliced_nil ?_))))
  obtain ⟨c', e, D⟩ := dlook C.K C.gw I3 g1 g2 g3 g5
  cases e
  exact dl_get2 C.un I3 D ry g4 rz fun w w' s4 I4 r rw' => ⟨w, H3, I4, rw', q3 w r⟩
theorem e_get1 (C : Cok T n X W) (hn : ∀ x, eb ≠ .star x) (ha : PE X a (tE T n W ea)) (hb : PE X b (tE T n W eb)) (hs : notStar b = true) (hbase : attributeBase a "get" X.env (eval a X.env) = eval a X.env) (hline : (apos.endLine == pos.line) = true) :
    PE X (.Call (.Attribute a "get" apos) [b] [] pos) (tE T n W (.dget ea (.cons eb .nil))) :=
  PE.imp (pe_get1 C ha hb ⟨hbase, by rw [starEach_cons hs]; rfl, hline, by rw [starEach_cons hs]; rfl⟩) fun σ H Q ⟨μ, env, st, rs, q⟩ => by
    rw [evE] at q
    refine ⟨μ, env, st, rs, q.bind.mono fun x μ1 st1 H1 _ e1 s1 p1 v rv => ?_⟩
    split at p1 <;> first | exact (p1 : False).elim | skip
    rename_i hd
    obtain ⟨c, rfl⟩ := dic_ref hd rv
    rw [evEs.eq_3 _ _ _ _ _ _ _ (fun x h => hn x h)] at p1
    refine ⟨c, rfl, ⟨μ1, st1, x, s1, rv, hd⟩, μ1, env, st1, rs.mono e1 s1, p1.bind.bind.mono fun y μ2 st2 H2 _ e2 s2 p2 w rw_ => ?_⟩
    rw [evEs] at p2
    have p2 : Post T.G W μ2 H2 σ (toR ((dAt st2 x y).map fun o => o.getD .non) st2) (Val T.G Q) := Post.ok (a := [y]) p2 s2
    obtain ⟨z, ez, q2⟩ := Post.toR p2 s2
    obtain ⟨o, eo, rfl⟩ := Option.map_eq_some_iff.mp ez
    exact ⟨μ2, st2, x, y, o, s2, rv.mono e2, rw_, eo, q2⟩
theorem e_get2 (C : Cok T n X W) (hn : ∀ x, eb ≠ .star x) (hn2 : ∀ x, ed ≠ .star x) (ha : PE X a (tE T n W ea)) (hb : PE X b (tE T n W eb)) (hd : PE X d (tE T n W ed)) (hs : notStar b = true) (hs2 : notStar d = true) (hbase : attributeBase a "get" X.env (eval a X.env) = eval a X.env) (hline : (apos.endLine == pos.line) = true) :
    PE X (.Call (.Attribute a "get" apos) [b, d] [] pos) (tE T n W (.dget ea (.cons eb (.cons ed .nil)))) :=
  PE.imp (pe_get2 C ha hb hd ⟨hbase, by rw [starEach_cons hs, starEach_cons hs2]; rfl, hline, by rw [starEach_cons hs, starEach_cons hs2]; rfl⟩) fun σ H Q ⟨μ, env, st, rs, q⟩ => by
    rw [evE] at q
    refine ⟨μ, env, st, rs, q.bind.mono fun x μ1 st1 H1 _ e1 s1 p1 v rv => ?_⟩
    split at p1 <;> first | exact (p1 : False).elim | skip
    rename_i hd
    obtain ⟨c, rfl⟩ := dic_ref hd rv
    rw [evEs.eq_3 _ _ _ _ _ _ _ (fun x h => hn x h)] at p1
    refine ⟨c, rfl, ⟨μ1, st1, x, s1, rv, hd⟩, μ1, env, st1, rs.mono e1 s1, p1.bind.bind.mono fun y μ2 st2 H2 _ e2 s2 p2 w rw_ => ⟨μ2, env, st2, (rs.mono e1 s1).mono e2 s2, ?_⟩⟩
    rw [evEs.eq_3 _ _ _ _ _ _ _ (fun x h => hn2 x h)] at p2
    refine p2.bind.bind.mono fun z μ3 st3 H3 _ e3 s3 p3 t rt => ?_
    rw [evEs] at p3
    have p3 : Post T.G W μ3 H3 σ (toR ((dAt st3 x y).map fun o => o.getD z) st3) (Val T.G Q) := Post.ok (Post.ok (a := [z]) p3 s3) s3
    obtain ⟨r, ez, q2⟩ := Post.toR p3 s3
    obtain ⟨o, eo, rfl⟩ := Option.map_eq_some_iff.mp ez
    exact ⟨μ3, st3, x, y, z, o, s3, (rv.mono e2).mono e3, rw_.mono e3, rt, eo, q2⟩
end
end Ev

/-! EvG: targets. -/
namespace Ev
open PySem PySem.Spec PyProof.Rows L2
mutual
/-- names alone -/
def Tg.pure : Tg → Bool
  | .name _ => true
  | .tup ts => ts.pure
  | .sub _ _ => false
  | .st2 _ _ => false
def Tgs.pure : Tgs → Bool
  | .nil => true
  | .cons t r => t.pure && r.pure
end
mutual
/-- the slots of a target -/
def Tg.ns : Tg → List Nat
  | .name i => [i]
  | .tup ts => ts.ns
  | .sub _ _ => []
  | .st2 _ _ => []
def Tgs.ns : Tgs → List Nat
  | .nil => []
  | .cons t r => t.ns ++ r.ns
end
/-- the same but at ns -/
def SameO (ns : List Nat) (σ σ' : L2.St) : Prop := ∀ j, j ∉ ns → σ'[j]? = σ[j]?
theorem SameO.refl {ns : List Nat} {σ : L2.St} : SameO ns σ σ := fun _ _ => rfl
section
variable {cl : Cl} {gs : Gv} {ar : Nat → Nat}
mutual
theorem asg_pure : ∀ (t : Tg) (x : PV) (env : Env) (st : Sto), t.pure = true → asg cl gs ar t x env st = .bad ∨ ∃ env', asg cl gs ar t x env st = .ok env' st
  | .name i, x, env, st, _ => by
    rw [asg]
    by_cases h : i < env.length
    · rw [if_pos h]; exact .inr ⟨_, rfl⟩
    · rw [if_neg h]; exact .inl rfl
  | .tup ts, x, env, st, h => by
    rw [asg]
    cases e : items st x with
    | none => exact .inl rfl
    | some xs =>
      show (if xs.length = ts.len then asgs cl gs ar ts xs env st else .bad) = .bad ∨ ∃ env', (if xs.length = ts.len then asgs cl gs ar ts xs env st else .bad) = .ok env' st
      by_cases hl : xs.length = ts.len
      · rw [if_pos hl]; exact asgs_pure ts xs env st (by rw [Tg.pure] at h; exact h)
      · rw [if_neg hl]; exact .inl rfl
  | .sub _ _, _, _, _, h => by rw [Tg.pure] at h; cases h
  | .st2 _ _, _, _, _, h => by rw [Tg.pure] at h; cases h
theorem asgs_pure : ∀ (t : Tgs) (xs : List PV) (env : Env) (st : Sto), t.pure = true → asgs cl gs ar t xs env st = .bad ∨ ∃ env', asgs cl gs ar t xs env st = .ok env' st
  | .nil, [], env, st, _ => by rw [asgs]; exact .inr ⟨_, rfl⟩
  | .nil, _ :: _, env, st, _ => by rw [asgs.eq_3 _ _ _ _ _ _ _ (by simp) (by simp)]; exact .inl rfl
  | .cons t r, [], env, st, _ => by rw [asgs.eq_3 _ _ _ _ _ _ _ (by simp) (by simp)]; exact .inl rfl
  | .cons t r, x :: xs, env, st, h => by
    rw [Tgs.pure, Bool.and_eq_true] at h
    rw [asgs]
    rcases asg_pure t x env st h.1 with e | ⟨env1, e⟩
    · rw [e]; exact .inl rfl
    · rw [e]; exact asgs_pure r xs env1 st h.2
end
end
section
variable {cl : Cl} {gs : Gv} {ar : Nat → Nat}
theorem asgS_nex {st : Sto} {env : Env} {x k v : PV} {j : Nat} {a : Option PV} {st' : Sto} : asgS st env x k v ≠ .ex j a st' := by
  unfold asgS
  split
  · split
    · split <;> simp
    · simp
  · simp
theorem hush_nex {α : Type} {r : R α} {k : Nat} {a : Option PV} {st : Sto} : r.hush ≠ .ex k a st := by cases r <;> simp [R.hush]
mutual
theorem asg_nex : ∀ (t : Tg) (x : PV) (env : Env) (st : Sto) {k : Nat} {a : Option PV} {st' : Sto}, asg cl gs ar t x env st ≠ .ex k a st'
  | .name i, x, env, st, k, a, st' => by
    rw [asg]
    by_cases h : i < env.length
    · rw [if_pos h]; simp
    · rw [if_neg h]; simp
  | .tup ts, x, env, st, k, a, st' => by
    rw [asg]
    cases e : items st x with
    | none => simp [toR, R.bind]
    | some xs =>
      show (if xs.length = ts.len then asgs cl gs ar ts xs env st else .bad) ≠ _
      by_cases hl : xs.length = ts.len
      · rw [if_pos hl]; exact asgs_nex ts xs env st
      · rw [if_neg hl]; simp
  | .sub o i, x, env, st, k, a, st' => by
    rw [asg]
    intro h
    cases h1 : (evE cl gs ar o env st).hush with
    | ex _ _ _ => exact hush_nex h1
    | bad => rw [h1] at h; cases h
    | ok u s1 =>
      rw [h1] at h
      cases h2 : (evE cl gs ar i env s1).hush with
      | ex _ _ _ => exact hush_nex h2
      | bad =>
        have h : ((evE cl gs ar i env s1).hush.bind _) = _ := h
        rw [h2] at h; cases h
      | ok v s2 =>
        have h : ((evE cl gs ar i env s1).hush.bind _) = _ := h
        rw [h2] at h
        dsimp only [R.bind] at h
        split at h
        · split at h
          · split at h <;> cases h
          · cases h
        · exact asgS_nex h
  | .st2 i t, x, env, st, k, a, st' => by
    rw [asg]
    cases e : items st x with
    | none => simp [toR, R.bind]
    | some xs =>
      show (match xs.getLast? with | some y => if i < env.length then asg cl gs ar t y (env.set i (some (.pl xs.dropLast))) st else .bad | none => .bad) ≠ _
      split
      · split
        · exact asg_nex t _ _ st
        · simp
      · simp
theorem asgs_nex : ∀ (t : Tgs) (xs : List PV) (env : Env) (st : Sto) {k : Nat} {a : Option PV} {st' : Sto}, asgs cl gs ar t xs env st ≠ .ex k a st'
  | .nil, [], env, st, k, a, st' => by rw [asgs]; simp
  | .nil, _ :: _, env, st, k, a, st' => by rw [asgs.eq_3 _ _ _ _ _ _ _ (by simp) (by simp)]; simp
  | .cons t r, [], env, st, k, a, st' => by rw [asgs.eq_3 _ _ _ _ _ _ _ (by simp) (by simp)]; simp
  | .cons t r, x :: xs, env, st, k, a, st' => by
    rw [asgs]
    intro h
    cases h1 : asg cl gs ar t x env st with
    | ex _ _ _ => exact asg_nex t x env st h1
    | bad => rw [h1] at h; cases h
    | ok u s1 =>
      rw [h1] at h
      exact asgs_nex r xs u s1 h
end
end
/-- targets that are names, or tuples of such -/
def gP (T : Tp) (n : Nat) (t : Tg) : TG := fun v σ H Q => ∃ (μ : Mu) (env : Env) (st : Sto) (x : PV) (env' : Env), RS T.G μ H env st σ ∧ Rep T.G μ H x v ∧ asg (T.cl n) T.gs T.ar t x env st = .ok env' st ∧ ∀ σ', RepEnv T.G μ H env' σ' → SameO t.ns σ σ' → Q σ' H
def gPs (T : Tp) (n : Nat) (ts : Tgs) : TGs := fun vs σ H Q => ∃ (μ : Mu) (env : Env) (st : Sto) (xs : List PV) (env' : Env), RS T.G μ H env st σ ∧ Reps T.G μ H xs vs ∧ asgs (T.cl n) T.gs T.ar ts xs env st = .ok env' st ∧ ∀ σ', RepEnv T.G μ H env' σ' → SameO ts.ns σ σ' → Q σ' H
theorem PG.imp {X : Cx} {e : Expr} {t t' : TG} (h : PG X e t) (k : ∀ v σ H Q, t' v σ H Q → t v σ H Q) : PG X e t' := ⟨fun pins s σ H v u Q I r q => h.run pins s σ H v u Q I r (k v σ H Q q)⟩
theorem PGs.imp {X : Cx} {e : List Expr} {t t' : TGs} (h : PGs X e t) (k : ∀ v σ H Q, t' v σ H Q → t v σ H Q) : PGs X e t' := ⟨fun pins s σ H v u Q I r q => h.run pins s σ H v u Q I r (k v σ H Q q)⟩
theorem PG.or {X : Cx} {e : Expr} {t t' : TG} (h : PG X e t) (h' : PG X e t') : PG X e (fun v σ H Q => t v σ H Q ∨ t' v σ H Q) := ⟨fun pins s σ H v u Q I r q => q.elim (fun q => h.run pins s σ H v u Q I r q) fun q => h'.run pins s σ H v u Q I r q⟩
theorem assignEach_cons {e : Expr} (h : notStar e = true) (r : List Expr) (env : PySem.Env) : assignEach (e :: r) env = (false, assign e env) :: assignEach r env := by
  cases e <;> first | rfl | cases h
theorem assign_len {es : List Expr} (h : es.all notStar = true) (env : PySem.Env) : (assignEach es env).length = es.length ∧ (assignEach es env).findIdx? (·.1) = none := by
  induction es with
  | nil => exact ⟨rfl, rfl⟩
  | cons e r ih =>
    have h' : notStar e = true ∧ r.all notStar = true := by simpa using h
    rw [assignEach_cons h'.1]
    have := ih h'.2
    refine ⟨by rw [List.length_cons, List.length_cons, this.1], ?_⟩
    rw [List.findIdx?_cons, this.2]; rfl
section
variable {T : Tp} {n : Nat} {X : Cx} {W : WX} {pos : Pos} {a b : Expr} {rest : List Expr} {ea eb : E} {er es : Es}
theorem g_name {i : Nat} {x : Str} (nd : X.N.Nodup) (hi : X.N[i]? = some x) (hx : Loc X.env.scope x) (hf : X.fn x = true ∨ X.env.scope.names.lookup x = some .local) : PG X (.Name x pos) (gP T n (.name i)) :=
  PG.imp (pg_name nd hi hx hf) fun v σ H Q ⟨μ, env, st, x, env', rs, rx, p, q⟩ => by
    rw [asg] at p
    by_cases hl : i < env.length
    · rw [if_pos hl] at p; cases p; exact q _ (rs.env.set rx i) fun j hj => List.getElem?_set_ne (fun z => hj (by rw [← z]; exact List.mem_singleton.mpr rfl))
    · rw [if_neg hl] at p; cases p
theorem gs_nil : PGs X [] (gPs T n .nil) := PGs.imp pgs_nil fun v σ H Q ⟨μ, env, st, xs, env', rs, rx, p, q⟩ => by
  cases xs with
  | nil => rw [asgs] at p; cases p; exact ⟨rx, q _ rs.env SameO.refl⟩
  | cons x xs => rw [asgs.eq_3 _ _ _ _ _ _ _ (by simp) (by simp)] at p; cases p
theorem gs_cons {t : Tg} {ts : Tgs} {e : Expr} {es : List Expr} (ht : t.pure = true) (h1 : PG X e (gP T n t)) (h2 : PGs X es (gPs T n ts)) (hs : notStar e = true) : PGs X (e :: es) (gPs T n (.cons t ts)) :=
  PGs.imp (pgs_cons h1 h2 (by rw [assignEach_cons hs]; rfl)) fun vs σ H Q ⟨μ, env, st, xs, env', rs, rx, p, q⟩ => by
    cases xs with
    | nil => rw [asgs.eq_3 _ _ _ _ _ _ _ (by simp) (by simp)] at p; cases p
    | cons x xs =>
      obtain ⟨v, r, rfl, r1, r2⟩ := rx
      rw [asgs] at p
      rcases asg_pure (cl := T.cl n) (gs := T.gs) (ar := T.ar) t x env st ht with e | ⟨env1, e⟩
      · rw [e] at p; cases p
      · rw [e] at p
        exact ⟨v, r, rfl, μ, env, st, x, env1, rs, r1, e, fun σ1 re so => ⟨μ, env1, st, xs, env', ⟨rs.st, re⟩, r2, p, fun σ2 re2 so2 => q σ2 re2 fun j hj => (so2 j fun m => hj (List.mem_append_right _ m)).trans (so j fun m => hj (List.mem_append_left _ m))⟩⟩
theorem g_tup {ts : Tgs} {es : List Expr} {k : Nat} (hK : X.K = T.G.K) (hc : X.calm = true) (h : PGs X es (gPs T n ts)) (hs : es.all notStar = true) (hl : es.length = ts.len) : PG X (.Tuple es k pos) (gP T n (.tup ts)) := by
  have al := assign_len hs X.env
  refine PG.imp (PG.or (pg_tup hc h al.1 al.2) (pg_lst hc h al.1 al.2)) fun v σ H Q ⟨μ, env, st, x, env', rs, rx, p, q⟩ => ?_
  rw [asg] at p
  cases e : items st x with
  | none => rw [e] at p; cases p
  | some xs =>
    rw [e] at p
    have p : (if xs.length = ts.len then asgs (T.cl n) T.gs T.ar ts xs env st else .bad) = .ok env' st := p
    by_cases hx : xs.length = ts.len
    · rw [if_pos hx] at p
      obtain ⟨c, ws, rfl, q1, q2⟩ := rep_items rs.st rx e
      have z : gPs T n ts ws σ H Q := ⟨μ, env, st, xs, env', rs, q2, p, q⟩
      have hw : ws.length = es.length := by rw [← q2.length, hx, hl]
      exact q1.elim (fun q1 => .inr ⟨c, ws, rfl, hK ▸ q1, hw, z⟩) fun q1 => .inl ⟨c, ws, rfl, hK ▸ q1, hw, z⟩
    · rw [if_neg hx] at p; cases p
/-- any target: its evaluation lets no error out -/
def gQ (T : Tp) (n : Nat) (t : Tg) : TG := fun v σ H Q => ∃ (μ : Mu) (env : Env) (st : Sto) (x : PV) (env' : Env) (st' : Sto), RS T.G μ H env st σ ∧ Rep T.G μ H x v ∧ asg (T.cl n) T.gs T.ar t x env st = .ok env' st' ∧ ∀ μ' H' σ', Ext μ H μ' H' → RS T.G μ' H' env' st' σ' → Q σ' H'
def gQs (T : Tp) (n : Nat) (ts : Tgs) : TGs := fun vs σ H Q => ∃ (μ : Mu) (env : Env) (st : Sto) (xs : List PV) (env' : Env) (st' : Sto), RS T.G μ H env st σ ∧ Reps T.G μ H xs vs ∧ asgs (T.cl n) T.gs T.ar ts xs env st = .ok env' st' ∧ ∀ μ' H' σ', Ext μ H μ' H' → RS T.G μ' H' env' st' σ' → Q σ' H'
theorem q_of {t : Tg} {e : Expr} (ht : t.pure = true) (h : PG X e (gP T n t)) : PG X e (gQ T n t) :=
  PG.imp h fun v σ H Q ⟨μ, env, st, x, env', st', rs, rx, p, q⟩ => by
    rcases asg_pure (cl := T.cl n) (gs := T.gs) (ar := T.ar) t x env st ht with e | ⟨env1, e⟩
    · rw [e] at p; cases p
    · rw [e] at p; cases p
      exact ⟨μ, env, _, x, env', rs, rx, e, fun σ' re _ => q μ H σ' (Ext.refl rs.st) ⟨rs.st, re⟩⟩
theorem qs_nil : PGs X [] (gQs T n .nil) := PGs.imp pgs_nil fun v σ H Q ⟨μ, env, st, xs, env', st', rs, rx, p, q⟩ => by
  cases xs with
  | nil => rw [asgs] at p; cases p; exact ⟨rx, q μ H σ (Ext.refl rs.st) rs⟩
  | cons x xs => rw [asgs.eq_3 _ _ _ _ _ _ _ (by simp) (by simp)] at p; cases p
theorem qs_cons {t : Tg} {ts : Tgs} {e : Expr} {es : List Expr} (h1 : PG X e (gQ T n t)) (h2 : PGs X es (gQs T n ts)) (hs : notStar e = true) : PGs X (e :: es) (gQs T n (.cons t ts)) :=
  PGs.imp (pgs_cons h1 h2 (by rw [assignEach_cons hs]; rfl)) fun vs σ H Q ⟨μ, env, st, xs, env', st', rs, rx, p, q⟩ => by
    cases xs with
    | nil => rw [asgs.eq_3 _ _ _ _ _ _ _ (by simp) (by simp)] at p; cases p
    | cons x xs =>
      obtain ⟨v, r, rfl, r1, r2⟩ := rx
      rw [asgs] at p
      obtain ⟨env1, st1, h1, h2⟩ := R.bind_ok p
      exact ⟨v, r, rfl, μ, env, st, x, env1, st1, rs, r1, h1, fun μ1 H1 σ1 e1 rs1 => ⟨μ1, env1, st1, xs, env', st', rs1, r2.mono e1, h2, fun μ2 H2 σ2 e2 rs2 => q μ2 H2 σ2 (e1.trans e2) rs2⟩⟩
theorem q_tup {ts : Tgs} {es : List Expr} {k : Nat} (hK : X.K = T.G.K) (hc : X.calm = true) (h : PGs X es (gQs T n ts)) (hs : es.all notStar = true) (hl : es.length = ts.len) : PG X (.Tuple es k pos) (gQ T n (.tup ts)) := by
  have al := assign_len hs X.env
  refine PG.imp (PG.or (pg_tup hc h al.1 al.2) (pg_lst hc h al.1 al.2)) fun v σ H Q ⟨μ, env, st, x, env', st', rs, rx, p, q⟩ => ?_
  rw [asg] at p
  cases e : items st x with
  | none => rw [e] at p; cases p
  | some xs =>
    rw [e] at p
    have p : (if xs.length = ts.len then asgs (T.cl n) T.gs T.ar ts xs env st else .bad) = .ok env' st' := p
    by_cases hx : xs.length = ts.len
    · rw [if_pos hx] at p
      obtain ⟨c, ws, rfl, q1, q2⟩ := rep_items rs.st rx e
      have z : gQs T n ts ws σ H Q := ⟨μ, env, st, xs, env', st', rs, q2, p, q⟩
      have hw : ws.length = es.length := by rw [← q2.length, hx, hl]
      exact q1.elim (fun q1 => .inr ⟨c, ws, rfl, hK ▸ q1, hw, z⟩) fun q1 => .inl ⟨c, ws, rfl, hK ▸ q1, hw, z⟩
    · rw [if_neg hx] at p; cases p
theorem hush_ok {α : Type} {r : R α} {a : α} {st : Sto} (h : r.hush = .ok a st) : r = .ok a st := by
  cases r with
  | ok b s => exact h
  | ex _ _ _ => cases h
  | bad => cases h
/-- no error -/
abbrev WF : WX := fun _ _ _ _ => False
/-- a value that is known -/
theorem te_ok {e : E} {σ : L2.St} {H : Hp} {μ : Mu} {env : Env} {st st' : Sto} {x : PV} {Q : VK} (rs : RS T.G μ H env st σ) (h : evE (T.cl n) T.gs T.ar e env st = .ok x st') (q : ∀ μ' H' v, Ext μ H μ' H' → RS T.G μ' H' env st' σ → Rep T.G μ' H' x v → Q v H') : tE T n WF e σ H Q :=
  ⟨μ, env, st, rs, by rw [h]; exact fun μ' H' e s v rv => q μ' H' v e (rs.mono e s) rv⟩
/-- a[b] = .. -/
theorem q_sub (C : Cok T n X W) (ha : PE X a (tE T n WF ea)) (hb : PE X b (tE T n WF eb)) (hp : plainIx b = true) : PG X (.Subscript a b pos) (gQ T n (.sub ea eb)) := by
  have hx : ∀ v, assign (.Subscript a b pos) X.env v = (do
      let ov ← holding [v] (eval a X.env)
      let iv ← holding [v, ov] (eval b X.env)
      standAt pos
      holding [v, ov, iv] (setItem ov iv v)
      release [v, ov, iv] []) := by
    intro v
    cases b <;> first | rfl | cases hp
  refine PG.imp (pg_sub ha hb (PSet.or set_list (set_dict (G := T.G) C.K C.gw C.un)) hx) fun v σ H Q ⟨μ, env, st, x, env', st', rs, rx, p, q⟩ => ?_
  rw [asg] at p
  obtain ⟨y, st1, h1, p⟩ := R.bind_ok p
  obtain ⟨z, st2, h2, p⟩ := R.bind_ok p
  refine te_ok rs (hush_ok h1) fun μ1 H1 u e1 rs1 ru => te_ok rs1 (hush_ok h2) fun μ2 H2 w e2 rs2 rw_ => ?_
  have rx2 := (rx.mono e1).mono e2
  have ru2 := ru.mono e2
  split at p
  rotate_left
  · obtain ⟨i, rfl⟩ : ∃ i, y = .md i := by
      cases y <;> first | exact ⟨_, rfl⟩ | cases p
    have p : (match st2[i]?, keyT z with
      | some xs, some _ => if decide (xs.length < 33554432) then R.ok env (st2.set i (dput z x xs)) else .bad
      | _, _ => .bad) = .ok env' st' := p
    split at p
    rotate_left
    · cases p
    rename_i xs nk ex ek
    split at p
    rotate_left
    · cases p
    rename_i hz
    cases p
    obtain ⟨a, rfl, v1, v2⟩ := ru2
    obtain ⟨b, rfl⟩ := key_ref ek rw_
    obtain ⟨ws, ob, ys, g1, g2, g3, g4, g5⟩ := rs2.st.atD i xs ex v1 v2
    have hi : i < st2.length := (List.getElem?_eq_some_iff.mp ex).1
    have hy : ys.length ≤ sizeLine := by
      have := ents_len g4
      rw [← g5.length] at this
      have := of_decide_eq_true hz
      rw [sizeLine_eq]; omega
    refine .inr ⟨a, b, ob, xs, ws, ys, z, nk, μ2, rfl, rfl, g1, g2, g3, g4, g5, ek, rw_, hy, fun ob' u' ru' D' => ?_⟩
    obtain ⟨ws', f1, f2, f3⟩ := put_at g3 g2.nd g4 g5 ek rw_ rx2 ru'
    obtain ⟨x1, x2⟩ := rs2.st.putC (o := dO a ob') hi v1 (fun ⟨_, z⟩ => by rw [g1] at z; cases z) (fun _ => ⟨ob', rfl⟩) fun e => ⟨ws', f3.mono e, .inr ⟨ob', _, upd_same, D', f1, f2⟩⟩
    exact q μ2 _ σ ((e1.trans e2).trans x1) ⟨x2, rs2.env.mono x1⟩
  rename_i k j _
  split at p
  rotate_left
  · cases p
  rename_i xs ex
  split at p
  rotate_left
  · cases p
  rename_i m em
  cases p
  cases (show w = .int j from rw_)
  obtain ⟨l, ws, rfl, q1, q2, q3⟩ := rep_ml rs2.st ru2 ex
  have hi : k < st2.length := (List.getElem?_eq_some_iff.mp ex).1
  obtain ⟨x1, x2⟩ := rs2.st.put hi q1 q2 (q3.set m rx2)
  refine .inl ⟨l, ws, j, m, rfl, rfl, q2, ?_, q μ2 _ σ ((e1.trans e2).trans x1) ⟨x2, rs2.env.mono x1⟩⟩
  rw [← q3.length]; exact em
end
end Ev

/-! EvZ: zip of two things, each a tuple or a list. -/
namespace Ev
open PySem PySem.Spec PyProof.Rows L2
/-- one side: a tuple (true) or a list; its iterator -/
def SSq (k : Bool) (h : Heap) (l : Addr) (xs : Array Value) : Prop := match k with
  | true => h.IsTuple l xs
  | false => h.IsList l xs
def SIt (k : Bool) (h : Heap) (i l : Addr) (n : Nat) : Prop := match k with
  | true => h.IsTupleIter i l n
  | false => h.IsListIter i l n
def SqK (k : Bool) (K : PySem.W.Frag) (H : Hp) (a : Addr) (xs : List V) : Prop := match k with
  | true => SqT K H a xs
  | false => SqL K H a xs
theorem SIt.ext {k : Bool} {h h' : Heap} {i b l : Addr} {n : Nat} (x : SIt k h i l n) (e : Heap.ExtBut b h h') (ne : i ≠ b) : SIt k h' i l n := by
  cases k
  · exact Heap.IsListIter.extBut x e ne
  · exact Heap.IsTupleIter.extBut x e ne
theorem SIt.to {k : Bool} {h h' : Heap} {i l : Addr} {n : Nat} (x : SIt k h i l n) (e : ∀ o, h.get? i = some o → h'.get? i = some o) : SIt k h' i l n := by
  cases k
  · exact Heap.IsListIter.at x e
  · exact Heap.IsTupleIter.at x e
theorem SIt.obj {k : Bool} {h : Heap} {i l : Addr} {n : Nat} (x : SIt k h i l n) : ∃ o, h.get? i = some o ∧ ∃ fs, o.data = .fields fs := by
  cases k
  · obtain ⟨o, e, _, d⟩ := x; exact ⟨o, e, _, d⟩
  · obtain ⟨o, e, _, d⟩ := x; exact ⟨o, e, _, d⟩
theorem SSq.ext {k : Bool} {h h' : Heap} {b l : Addr} {xs : Array Value} (x : SSq k h l xs) (e : Heap.ExtBut b h h') (ne : l ≠ b) : SSq k h' l xs := by
  cases k
  · exact Heap.IsList.extBut x e ne
  · exact Heap.IsTuple.extBut x e ne
theorem SSq.lt {k : Bool} {h : Heap} {l : Addr} {xs : Array Value} (x : SSq k h l xs) : l < h.objs.size := by
  cases k
  · obtain ⟨o, e, _⟩ := x; exact Heap.lt_size e
  · obtain ⟨o, e, _⟩ := x; exact Heap.lt_size e
section
variable {prog : Program} {w : World} {A : Around} {E : Value → Shared → Prop} {s : Shared}
theorem side_some {k : Bool} {i l : Addr} {n : Nat} {xs : Array Value} {x : Value} {Q : Value → Shared → Prop} (hi : SIt k s.heap i l n) (hl : SSq k s.heap l xs) (hx : xs[n]? = some x)
    (q : ∀ h', SIt k h' i l (n + 1) → Heap.SameBut i s.heap h' → Q x { s with heap := h' }) : wpAny (model prog w) A (Builtin.SmallTypes.nextOf (.ref i)) Q E s := by
  cases k
  · exact wpAny_nextOf_list_item hi hl hx q
  · exact RZ.nextOf_tuple_item hi hl hx q
theorem side_none {k : Bool} {i l : Addr} {n : Nat} {xs : Array Value} {Q : Value → Shared → Prop} (hh : A.handled = none) (hi : SIt k s.heap i l n) (hl : SSq k s.heap l xs) (hx : xs[n]? = none)
    (q : ∀ h' e, Heap.ExtBut i s.heap h' → (∃ o, h'.get? e = some o ∧ o.cls = .type "StopIteration") → E (.ref e) { s with heap := h' }) : wpAny (model prog w) A (Builtin.SmallTypes.nextOf (.ref i)) Q E s := by
  cases k
  · exact wpAny_nextOf_list_end hh hi hl hx q
  · exact RZ.nextOf_tuple_end hh hi hl hx q
/-- what stands while a zip is walked -/
structure Zp (k1 k2 : Bool) (h : Heap) (z p o i1 i2 l1 l2 : Addr) (xs ys : Array Value) (n : Nat) : Prop where
  z : IsZip h z p o .none
  p : IsPair h p (.ref i1) (.ref i2)
  o : ∃ a b, IsPair h o a b
  a : SIt k1 h i1 l1 n
  b : SIt k2 h i2 l2 n
  c : SSq k1 h l1 xs
  d : SSq k2 h l2 ys
variable {k1 k2 : Bool} {z p o i1 i2 l1 l2 : Addr} {xs ys : Array Value} {n : Nat}
theorem zip_some {Q : Value → Shared → Prop} (D : ZipApart z p o i1 i2 l1 l2) (W : Zp k1 k2 s.heap z p o i1 i2 l1 l2 xs ys n) {x y : Value} (hx : xs[n]? = some x) (hy : ys[n]? = some y)
    (q : ∀ h', IsZip h' z p o (rawInt s.heap.objs.size) → IsPair h' o x y → SIt k1 h' i1 l1 (n + 1) → SIt k2 h' i2 l2 (n + 1) → IsPair h' s.heap.objs.size x y → h'.objs.size = s.heap.objs.size + 1 →
      (∀ c u, c ≠ z → c ≠ o → c ≠ i1 → c ≠ i2 → s.heap.get? c = some u → h'.get? c = some u) → Q (.ref s.heap.objs.size) { s with heap := h' }) :
    wpAny (model prog w) A (Builtin.«zip.__next__» ⟨[.ref z], []⟩) (fun fin s' => ∃ v, fin = .done (.ret v) ∧ Q v s') E s := by
  obtain ⟨wz, wp, ⟨a0, b0, wo⟩, wa, wb, wc, wd⟩ := W
  change wpAny _ _ (field (.ref z) 2 >>= _) _ _ _
  refine wpAny_bind (wpAny_field wz rfl (x := .bool false) rfl ?_)
  change wpAny _ _ (field (.ref z) 3 >>= _) _ _ _
  refine wpAny_bind (wpAny_field wz rfl (x := .ref p) rfl ?_)
  refine wpAny_bind (wpAny_seqItems wp rfl ?_)
  show wpAny _ _ (Builtin.SmallTypes.ownedTupleIsFree (.ref z) >>= _) _ _ _
  refine wpAny_bind ?_
  unfold Builtin.SmallTypes.ownedTupleIsFree
  refine wpAny_bind (wpAny_field wz rfl (x := .none) rfl (wpAny_pure ?_))
  simp only [if_true]
  refine wpAny_bind (wpAny_rule ?_)
  refine wpAny_bind (wpAny_field wz rfl (x := .ref o) rfl ?_)
  refine wpAny_bind (wpAny_setField_rec wz (by simp) fun g1 z1 e1 => ?_)
  have z1 : IsZip g1 z p o .ellipsis := z1
  refine wpAny_bind ?_
  simp only [List.zipIdx_cons, List.zipIdx_nil, List.forIn_cons, List.forIn_nil]
  -- the one side
  refine wpAny_bind (wpAny_bind (wpAny_onRaise ?_))
  refine wpAny_bind (side_some (wa.ext e1.extBut D.i1z) (wc.ext e1.extBut D.l1z) hx fun g2 a2 e2 => wpAny_pure ?_)
  have o2 : IsPair g2 o a0 b0 := e2.extBut _ _ D.TOi1 (e1.extBut _ _ D.TOz wo)
  refine wpAny_bind (wpAny_seqItems o2 rfl (wpAny_bind (wpAny_updateSeq_pair o2 fun g3 o3 e3 => ?_)))
  have o3 : IsPair g3 o x b0 := o3
  refine wpAny_bind (wpAny_letGo (wpAny_pure ?_))
  -- the other
  refine wpAny_bind (wpAny_bind (wpAny_onRaise ?_))
  refine wpAny_bind (side_some (((wb.ext e1.extBut D.i2z).ext e2.extBut D.i12.symm).ext e3.extBut D.TOi2.symm) (((wd.ext e1.extBut D.l2z).ext e2.extBut D.l2i1).ext e3.extBut D.l2TO) hy fun g4 b4 e4 => wpAny_pure ?_)
  have o4 : IsPair g4 o x b0 := e4.extBut _ _ D.TOi2 o3
  refine wpAny_bind (wpAny_seqItems o4 rfl (wpAny_bind (wpAny_updateSeq_pair o4 fun g5 o5 e5 => ?_)))
  have o5 : IsPair g5 o x y := o5
  refine wpAny_bind (wpAny_letGo (wpAny_pure (wpAny_pure ?_)))
  refine wpAny_bind (wpAny_seqItems o5 rfl (wpAny_bind (wpAny_newTuple ?_)))
  have sz : g5.objs.size = s.heap.objs.size := by rw [e5.1, e4.1, e3.1, e2.1, e1.1]
  have z5 : IsZip g5 z p o .ellipsis := e5.extBut _ _ D.TOz.symm (e4.extBut _ _ D.i2z.symm (e3.extBut _ _ D.TOz.symm (e2.extBut _ _ D.i1z.symm z1)))
  have keep : ∀ c u, c ≠ z → c ≠ o → c ≠ i1 → c ≠ i2 → s.heap.get? c = some u → g5.get? c = some u := fun c u c1 c2 c3 c4 e =>
    e5.extBut _ _ c2 (e4.extBut _ _ c4 (e3.extBut _ _ c2 (e2.extBut _ _ c3 (e1.extBut _ _ c1 e))))
  have a5 : SIt k1 g5 i1 l1 (n + 1) := ((a2.ext e3.extBut D.TOi1.symm).ext e4.extBut D.i12).ext e5.extBut D.TOi1.symm
  have b5 : SIt k2 g5 i2 l2 (n + 1) := b4.ext e5.extBut D.TOi2.symm
  have lz : z < g5.objs.size := Heap.lt_size z5
  show wpAny _ _ (Builtin.SmallTypes.ownedTupleHandOut (.ref z) (.ref g5.objs.size) >>= _) _ _ _
  refine wpAny_bind ?_
  unfold Builtin.SmallTypes.ownedTupleHandOut
  have z6 : IsZip (g5.push { cls := .type "tuple", data := .seq #[x, y] }) z p o .ellipsis := Heap.get?_push_of_some _ z5
  refine wpAny_bind (wpAny_setField_rec z6 (by simp) fun g7 z7 e7 => ?_)
  have z7 : IsZip g7 z p o (rawInt g5.objs.size) := z7
  refine wpAny_setField_rec z7 (by simp) fun g8 z8 e8 => ?_
  have z8 : IsZip g8 z p o (rawInt g5.objs.size) := z8
  have up : ∀ c u, c ≠ z → g5.get? c = some u → g8.get? c = some u := fun c u c1 e => e8.extBut _ _ c1 (e7.extBut _ _ c1 (Heap.get?_push_of_some _ e))
  have t8 : IsPair g8 g5.objs.size x y := e8.extBut _ _ (Nat.ne_of_gt lz) (e7.extBut _ _ (Nat.ne_of_gt lz) (Heap.get?_push_size _ rfl))
  have n8 : g8.objs.size = g5.objs.size + 1 := by rw [e8.1, e7.1, Heap.size_push]
  rw [sz] at z8 t8 n8
  refine wpAny_pure ⟨_, rfl, ?_⟩
  show Q (.ref g5.objs.size) _
  rw [sz]
  exact q g8 z8 (up _ _ D.TOz o5) (a5.to fun u e => up _ u D.i1z e) (b5.to fun u e => up _ u D.i2z e) t8 n8 fun c u c1 c2 c3 c4 e => up c u c1 (keep c u c1 c2 c3 c4 e)
theorem zip_none {Q : PySem.Fin → Shared → Prop} (hh : A.handled = none) (D : ZipApart z p o i1 i2 l1 l2) (W : Zp k1 k2 s.heap z p o i1 i2 l1 l2 xs ys n) (over : xs[n]? = none ∨ ys[n]? = none)
    (q : ∀ h' e, (∀ c u, c ≠ z → c ≠ o → c ≠ i1 → c ≠ i2 → s.heap.get? c = some u → h'.get? c = some u) → (∃ u, h'.get? e = some u ∧ u.cls = .type "StopIteration") → E (.ref e) { s with heap := h' }) :
    wpAny (model prog w) A (Builtin.«zip.__next__» ⟨[.ref z], []⟩) Q E s := by
  obtain ⟨wz, wp, ⟨a0, b0, wo⟩, wa, wb, wc, wd⟩ := W
  change wpAny _ _ (field (.ref z) 2 >>= _) _ _ _
  refine wpAny_bind (wpAny_field wz rfl (x := .bool false) rfl ?_)
  change wpAny _ _ (field (.ref z) 3 >>= _) _ _ _
  refine wpAny_bind (wpAny_field wz rfl (x := .ref p) rfl ?_)
  refine wpAny_bind (wpAny_seqItems wp rfl ?_)
  show wpAny _ _ (Builtin.SmallTypes.ownedTupleIsFree (.ref z) >>= _) _ _ _
  refine wpAny_bind ?_
  unfold Builtin.SmallTypes.ownedTupleIsFree
  refine wpAny_bind (wpAny_field wz rfl (x := .none) rfl (wpAny_pure ?_))
  simp only [if_true]
  refine wpAny_bind (wpAny_rule ?_)
  refine wpAny_bind (wpAny_field wz rfl (x := .ref o) rfl ?_)
  refine wpAny_bind (wpAny_setField_rec wz (by simp) fun g1 z1 e1 => ?_)
  have z1 : IsZip g1 z p o .ellipsis := z1
  refine wpAny_bind ?_
  simp only [List.zipIdx_cons, List.zipIdx_nil, List.forIn_cons, List.forIn_nil]
  refine wpAny_bind (wpAny_bind (wpAny_onRaise ?_))
  show wpAny _ _ (Builtin.SmallTypes.nextOf (.ref i1) >>= _) _ _ _
  cases hx : xs[n]? with
  | none =>
    refine wpAny_bind (side_none hh (wa.ext e1.extBut D.i1z) (wc.ext e1.extBut D.l1z) hx fun g2 e e2 ⟨u, hu, cu⟩ => ?_)
    have z2 : IsZip g2 z p o .ellipsis := e2 _ _ D.i1z.symm z1
    have ne : e ≠ z := fun t => by subst t; rw [z2] at hu; cases hu; simp at cu
    exact wpAny_setField_rec z2 (by simp) fun g3 _ e3 => q g3 e (fun c v c1 _ c3 _ t => e3.extBut _ _ c1 (e2 _ _ c3 (e1.extBut _ _ c1 t))) ⟨u, e3.extBut _ _ ne hu, cu⟩
  | some x =>
    have hy : ys[n]? = none := over.resolve_left (by rw [hx]; exact fun t => by cases t)
    refine wpAny_bind (side_some (wa.ext e1.extBut D.i1z) (wc.ext e1.extBut D.l1z) hx fun g2 a2 e2 => wpAny_pure ?_)
    have o2 : IsPair g2 o a0 b0 := e2.extBut _ _ D.TOi1 (e1.extBut _ _ D.TOz wo)
    refine wpAny_bind (wpAny_seqItems o2 rfl (wpAny_bind (wpAny_updateSeq_pair o2 fun g3 o3 e3 => ?_)))
    refine wpAny_bind (wpAny_letGo (wpAny_pure ?_))
    refine wpAny_bind (wpAny_bind (wpAny_onRaise ?_))
    refine wpAny_bind (side_none hh (((wb.ext e1.extBut D.i2z).ext e2.extBut D.i12.symm).ext e3.extBut D.TOi2.symm) (((wd.ext e1.extBut D.l2z).ext e2.extBut D.l2i1).ext e3.extBut D.l2TO) hy fun g4 e e4 ⟨u, hu, cu⟩ => ?_)
    have z4 : IsZip g4 z p o .ellipsis := e4 _ _ D.i2z.symm (e3.extBut _ _ D.TOz.symm (e2.extBut _ _ D.i1z.symm z1))
    have ne : e ≠ z := fun t => by subst t; rw [z4] at hu; cases hu; simp at cu
    exact wpAny_setField_rec z4 (by simp) fun g5 _ e5 => q g5 e (fun c v c1 c2 c3 c4 t => e5.extBut _ _ c1 (e4 _ _ c4 (e3.extBut _ _ c2 (e2.extBut _ _ c3 (e1.extBut _ _ c1 t))))) ⟨u, e5.extBut _ _ ne hu, cu⟩
theorem nextZ_some {Q : Option Value → Shared → Prop} (D : ZipApart z p o i1 i2 l1 l2) (W : Zp k1 k2 s.heap z p o i1 i2 l1 l2 xs ys n) {x y : Value} (hx : xs[n]? = some x) (hy : ys[n]? = some y)
    (q : ∀ h', IsZip h' z p o (rawInt s.heap.objs.size) → IsPair h' o x y → SIt k1 h' i1 l1 (n + 1) → SIt k2 h' i2 l2 (n + 1) → IsPair h' s.heap.objs.size x y → h'.objs.size = s.heap.objs.size + 1 →
      (∀ c u, c ≠ z → c ≠ o → c ≠ i1 → c ≠ i2 → s.heap.get? c = some u → h'.get? c = some u) → Q (some (.ref s.heap.objs.size)) { s with heap := h' }) : wpAny (model prog w) A (pyNext (.ref z)) Q E s := by
  have ty : s.TypeIs (.ref z) "zip" := ⟨_, W.z, rfl⟩
  unfold pyNext
  refine wpAny_bind (wpAny_attempt (wpAny_callSpecial?_slot (name := Str.ofString "__next__") ty F.slot_zip_next (wpAny_call_entry F.slot_zip_next ty F.entry_zip_next ?_ (F.args_zip_next_1 _))))
  exact zip_some D W hx hy fun h' a1 a2 a3 a4 a5 a6 a7 => wpAny_pure (q h' a1 a2 a3 a4 a5 a6 a7)
theorem nextZ_none {Q : Option Value → Shared → Prop} (hh : A.handled = none) (D : ZipApart z p o i1 i2 l1 l2) (W : Zp k1 k2 s.heap z p o i1 i2 l1 l2 xs ys n) (over : xs[n]? = none ∨ ys[n]? = none)
    (q : ∀ h', (∀ c u, c ≠ z → c ≠ o → c ≠ i1 → c ≠ i2 → s.heap.get? c = some u → h'.get? c = some u) → Q none { s with heap := h' }) : wpAny (model prog w) A (pyNext (.ref z)) Q E s := by
  have ty : s.TypeIs (.ref z) "zip" := ⟨_, W.z, rfl⟩
  unfold pyNext
  refine wpAny_bind (wpAny_attempt (wpAny_callSpecial?_slot (name := Str.ofString "__next__") ty F.slot_zip_next (wpAny_call_entry F.slot_zip_next ty F.entry_zip_next ?_ (F.args_zip_next_1 _))))
  refine zip_none hh D W over fun h' e keep ⟨u, hu, cu⟩ => ?_
  exact wpAny_bind (wpAny_isInstance (T := "StopIteration") (b := true) ⟨u, hu, cu⟩ isSubtype_stop (wpAny_pure (q _ keep)))
end

abbrev zp1 (c : String) (h : Heap) (l1 : Addr) : Heap := h.push { cls := .type c, data := .fields #[.ref l1, .int 0 0] }
abbrev zp2 (c c' : String) (h : Heap) (l1 l2 : Addr) : Heap := (zp1 c h l1).push { cls := .type c', data := .fields #[.ref l2, .int 0 0] }
abbrev zp3 (c c' : String) (h : Heap) (l1 l2 : Addr) : Heap := (zp2 c c' h l1 l2).push { cls := .type "tuple", data := .seq #[.ref h.objs.size, .ref (zp1 c h l1).objs.size] }
abbrev zp4 (c c' : String) (h : Heap) (l1 l2 : Addr) : Heap := (zp3 c c' h l1 l2).push { cls := .type "tuple", data := .seq #[.none, .none] }
abbrev zp5 (c c' : String) (h : Heap) (l1 l2 : Addr) : Heap := (zp4 c c' h l1 l2).push { cls := .type "zip", data := .fields #[.none, .bool false, .bool false, .ref (zp2 c c' h l1 l2).objs.size, .ref (zp3 c c' h l1 l2).objs.size] }

/-- zip of a tuple and a list, made -/
theorem made_tl (l1 l2 : Addr) (xs ys : Array Value) : Meets (Builtin.«zip.__new__» ⟨[.type "zip", .ref l1, .ref l2], []⟩) (fun _ R s => s.heap.IsTuple l1 xs ∧ s.heap.IsList l2 ys ∧
    R (.ok (.ret (.ref (zp4 "tuple_iterator" "list_iterator" s.heap l1 l2).objs.size))) { s with heap := zp5 "tuple_iterator" "list_iterator" s.heap l1 l2 }) :=
  .of_wp fun prog w A R s h => by
    obtain ⟨hp, g, d, tk, os⟩ := s
    obtain ⟨q1, q2, h⟩ := h
    have hsub := sub_zip
    have L1 : Heap.IsTuple (Shared.heap ⟨hp, g, d, tk, os⟩) l1 xs := q1
    have L2 : Heap.IsList (Shared.heap ⟨hp.push { cls := .type "tuple_iterator", data := .fields #[.ref l1, .int 0 0] }, g, d, tk, os⟩) l2 ys := Heap.IsList.push q2 _
    wp_walk using wpAny_pyIter_tuple L1, wpAny_pyIter_list L2
    exact ⟨_, rfl, h⟩

/-- zip of a list and a tuple, made -/
theorem made_lt (l1 l2 : Addr) (xs ys : Array Value) : Meets (Builtin.«zip.__new__» ⟨[.type "zip", .ref l1, .ref l2], []⟩) (fun _ R s => s.heap.IsList l1 xs ∧ s.heap.IsTuple l2 ys ∧
    R (.ok (.ret (.ref (zp4 "list_iterator" "tuple_iterator" s.heap l1 l2).objs.size))) { s with heap := zp5 "list_iterator" "tuple_iterator" s.heap l1 l2 }) :=
  .of_wp fun prog w A R s h => by
    obtain ⟨hp, g, d, tk, os⟩ := s
    obtain ⟨q1, q2, h⟩ := h
    have hsub := sub_zip
    have L1 : Heap.IsList (Shared.heap ⟨hp, g, d, tk, os⟩) l1 xs := q1
    have L2 : Heap.IsTuple (Shared.heap ⟨hp.push { cls := .type "list_iterator", data := .fields #[.ref l1, .int 0 0] }, g, d, tk, os⟩) l2 ys := Heap.IsTuple.push q2 _
    wp_walk using wpAny_pyIter_list L1, wpAny_pyIter_tuple L2
    exact ⟨_, rfl, h⟩

/-- where the parts of a new zip lie -/
theorem zp_at (c c' : String) (h : Heap) (l1 l2 : Addr) : IsZip (zp5 c c' h l1 l2) (h.objs.size + 4) (h.objs.size + 2) (h.objs.size + 3) .none ∧ IsPair (zp5 c c' h l1 l2) (h.objs.size + 2) (.ref h.objs.size) (.ref (h.objs.size + 1)) ∧ IsPair (zp5 c c' h l1 l2) (h.objs.size + 3) .none .none ∧
    (zp5 c c' h l1 l2).get? h.objs.size = some { cls := .type c, data := .fields #[.ref l1, .int 0 0] } ∧ (zp5 c c' h l1 l2).get? (h.objs.size + 1) = some { cls := .type c', data := .fields #[.ref l2, .int 0 0] } ∧ (zp5 c c' h l1 l2).objs.size = h.objs.size + 5 ∧ (zp4 c c' h l1 l2).objs.size = h.objs.size + 4 ∧
    ∀ a u, h.get? a = some u → (zp5 c c' h l1 l2).get? a = some u := by
  have n1 : (zp1 c h l1).objs.size = h.objs.size + 1 := Heap.size_push ..
  have n2 : (zp2 c c' h l1 l2).objs.size = h.objs.size + 2 := (Heap.size_push ..).trans (by rw [n1])
  have n3 : (zp3 c c' h l1 l2).objs.size = h.objs.size + 3 := (Heap.size_push ..).trans (by rw [n2])
  have n4 : (zp4 c c' h l1 l2).objs.size = h.objs.size + 4 := (Heap.size_push ..).trans (by rw [n3])
  have n5 : (zp5 c c' h l1 l2).objs.size = h.objs.size + 5 := (Heap.size_push ..).trans (by rw [n4])
  have s5 : (zp5 c c' h l1 l2).get? (zp4 c c' h l1 l2).objs.size = some _ := Heap.get?_push_size _ rfl
  have s4 : (zp5 c c' h l1 l2).get? (zp3 c c' h l1 l2).objs.size = some _ := Heap.get?_push_of_some _ (Heap.get?_push_size _ rfl)
  have s3 : (zp5 c c' h l1 l2).get? (zp2 c c' h l1 l2).objs.size = some _ := Heap.get?_push_of_some _ (Heap.get?_push_of_some _ (Heap.get?_push_size _ rfl))
  have s2 : (zp5 c c' h l1 l2).get? (zp1 c h l1).objs.size = some _ := Heap.get?_push_of_some _ (Heap.get?_push_of_some _ (Heap.get?_push_of_some _ (Heap.get?_push_size _ rfl)))
  have s1 : (zp5 c c' h l1 l2).get? h.objs.size = some _ := Heap.get?_push_of_some _ (Heap.get?_push_of_some _ (Heap.get?_push_of_some _ (Heap.get?_push_of_some _ (Heap.get?_push_size _ rfl))))
  rw [n2, n3, n4] at s5
  rw [n1, n2] at s3
  rw [n3] at s4
  rw [n1] at s2
  exact ⟨s5, s3, s4, s1, s2, n5, n4, fun a u e => Heap.get?_push_of_some _ (Heap.get?_push_of_some _ (Heap.get?_push_of_some _ (Heap.get?_push_of_some _ (Heap.get?_push_of_some _ e))))⟩
section
variable {prog : Program} {w : World} {A : Around} {E : Value → Shared → Prop} {s : Shared}
theorem call_zipM {k1 k2 : Bool} {l1 l2 : Addr} {xs ys : Array Value} {Q : Value → Shared → Prop} (q1 : SSq k1 s.heap l1 xs) (q2 : SSq k2 s.heap l2 ys)
    (h : ∀ h', IsZip h' (s.heap.objs.size + 4) (s.heap.objs.size + 2) (s.heap.objs.size + 3) .none → IsPair h' (s.heap.objs.size + 2) (.ref s.heap.objs.size) (.ref (s.heap.objs.size + 1)) → IsPair h' (s.heap.objs.size + 3) .none .none →
      SIt k1 h' s.heap.objs.size l1 0 → SIt k2 h' (s.heap.objs.size + 1) l2 0 → (∀ c u, s.heap.get? c = some u → h'.get? c = some u) → Q (.ref (s.heap.objs.size + 4)) { s with heap := h' }) :
    wpAny (model prog w) A (call (.type "zip") [.ref l1, .ref l2]) Q E s := by
  cases k1 <;> cases k2
  · exact call_zip_2 q1 q2 fun h' a b c d e _ f => h h' a b c d e f
  · obtain ⟨s5, s3, s4, s1, s2, n5, n4, kp⟩ := zp_at "list_iterator" "tuple_iterator" s.heap l1 l2
    refine callType_new F.called_zip (by decide) (F.typeCall_zip_2 _ _) (F.newCall_zip_2 _ _) (fun o => F.args_object_init_3 o _ _) F.entry_zip_new (made_lt l1 l2 xs ys) ⟨q1, q2, ?_⟩
    show _ ∧ _
    rw [n4]
    exact ⟨⟨_, s5, rfl⟩, h _ s5 s3 s4 ⟨_, s1, rfl, rfl⟩ ⟨_, s2, rfl, rfl⟩ kp⟩
  · obtain ⟨s5, s3, s4, s1, s2, n5, n4, kp⟩ := zp_at "tuple_iterator" "list_iterator" s.heap l1 l2
    refine callType_new F.called_zip (by decide) (F.typeCall_zip_2 _ _) (F.newCall_zip_2 _ _) (fun o => F.args_object_init_3 o _ _) F.entry_zip_new (made_tl l1 l2 xs ys) ⟨q1, q2, ?_⟩
    show _ ∧ _
    rw [n4]
    exact ⟨⟨_, s5, rfl⟩, h _ s5 s3 s4 ⟨_, s1, rfl, rfl⟩ ⟨_, s2, rfl, rfl⟩ kp⟩
  · exact RZ.call_zipT q1 q2 fun h' a b c d e _ f => h h' a b c d e f
end
/-- what is at a and b as it stands at each turn, the items in new pairs -/
def ItzM (k1 k2 : Bool) (K : PySem.W.Frag) (a b : Addr) : L2.It :=
  ⟨fun i H => ∃ (xs ys : List V) (x y : V), SqK k1 K H a xs ∧ SqK k2 K H b ys ∧ xs[i]? = some x ∧ ys[i]? = some y,
    fun i H v H' => ∃ T x y, v = .ref T ∧ H T = none ∧ H' = upd H T (.tup [x, y]) ∧ (∀ xs, SqK k1 K H a xs → xs[i]? = some x) ∧ ∀ ys, SqK k2 K H b ys → ys[i]? = some y,
    fun i H => ∃ xs ys : List V, SqK k1 K H a xs ∧ SqK k2 K H b ys ∧ (xs.length ≤ i ∨ ys.length ≤ i)⟩
theorem Inv_sq {X : Cx} {pins : List (Addr × Obj)} {σ : L2.St} {H : Hp} {s : Shared} (I : Inv X pins σ H s) {k : Bool} {a : Addr} {xs : List V} (q : SqK k X.K H a xs) : ∃ its : List Value, Vals xs its ∧ SSq k s.heap a its.toArray := by
  cases k
  · obtain ⟨its, rv, p, _⟩ := I.list q
    exact ⟨its, rv, p.isList⟩
  · obtain ⟨its, rv, p, _⟩ := I.tuple q
    exact ⟨its, rv, p⟩
theorem Inv_inj {X : Cx} {pins : List (Addr × Obj)} {σ : L2.St} {H : Hp} {s : Shared} (I : Inv X pins σ H s) {k : Bool} {a : Addr} {xs ys : List V} (q : SqK k X.K H a xs) (q' : SqK k X.K H a ys) : xs = ys := by
  cases k
  · exact I.list_inj q q'
  · exact I.tuple_inj q q'
theorem five {z p o i1 i2 c : Addr} : c ∈ [z, p, o, i1, i2] ↔ c = z ∨ c = p ∨ c = o ∨ c = i1 ∨ c = i2 := by simp
theorem turn_zipM {P : Program} {w : World} {K : PySem.W.Frag} {elts : List Expr} {kk : Nat} {tpos : Pos} {k1 k2 : Bool} {a b z p o i1 i2 : Addr} (D : ZipApart z p o i1 i2 a b) :
    Turn P w K (.Tuple elts kk tpos) (ItzM k1 k2 K a b) [z, p, o, i1, i2] z (fun i h => IsZip h z p o .none ∧ IsPair h p (.ref i1) (.ref i2) ∧ (∃ x y, IsPair h o x y) ∧ SIt k1 h i1 a i ∧ SIt k2 h i2 b i) where
  mem := by simp
  obj := fun i h st c hc => by
    obtain ⟨wz, wp, ⟨x, y, wo⟩, wa, wb⟩ := st
    obtain ⟨o1, e1, f1, d1⟩ := wa.obj
    obtain ⟨o2, e2, f2, d2⟩ := wb.obj
    rcases five.mp hc with q | q | q | q | q <;> subst q
    · exact ⟨_, wz, fun v q => nomatch q⟩
    · exact ⟨_, wp, fun v q => nomatch q⟩
    · exact ⟨_, wo, fun v q => nomatch q⟩
    · exact ⟨o1, e1, fun v q => by rw [d1] at q; cases q⟩
    · exact ⟨o2, e2, fun v q => by rw [d2] at q; cases q⟩
  keep := fun i h h' st k => by
    obtain ⟨wz, wp, ⟨x, y, wo⟩, wa, wb⟩ := st
    exact ⟨k z (by simp) _ wz, k p (by simp) _ wp, ⟨x, y, k o (by simp) _ wo⟩, wa.to fun u q => k i1 (by simp) u q, wb.to fun u q => k i2 (by simp) u q⟩
  item := by
    intro X hP hw hK hc i pins s σ H E I hf st hg
    subst hP hw hK
    obtain ⟨wz, wp, wo, wa, wb⟩ := st
    obtain ⟨xs, ys, x, y, gx, gy, hx, hy⟩ := hg
    obtain ⟨its, rv, sx⟩ := Inv_sq I gx
    obtain ⟨its2, rv2, sy⟩ := Inv_sq I gy
    obtain ⟨u, hu, ru⟩ := rv.get hx
    obtain ⟨u2, hu2, ru2⟩ := rv2.get hy
    have lz : z < s.heap.objs.size := Heap.lt_size wz
    refine nextZ_some D ⟨wz, wp, wo, wa, wb, sx, sy⟩ (x := u) (y := u2) (by simpa using hu) (by simpa using hu2) fun h' z' o' a' b' t' n' k' => ?_
    refine ⟨_, rfl, wpAny_letOwnedTupleGo_zip (s := { s with heap := h' }) z' fun h'' z'' sb => ?_⟩
    have t2 : h''.get? s.heap.objs.size = some { cls := .type "tuple", data := .seq #[u, u2] } := (sb.2 _ (Nat.ne_of_gt lz)).trans t'
    have ok : ObjOk X.prog X.w (upd H s.heap.objs.size (.tup [x, y])) h'' s.heap.objs.size (.tup [x, y]) := ⟨by show 2 ≤ sizeLine; decide, [u, u2], .cons ru (.cons ru2 .nil), ⟨_, t2, rfl, _, rfl⟩⟩
    have I1 : Inv X pins σ (upd H s.heap.objs.size (.tup [x, y])) { s with heap := h'' } :=
      I.turnedNew (t' := s.toks) (ch := [z, p, o, i1, i2]) (fun c v nb q => (sb.2 c fun t => nb (five.mpr (.inl t))).trans (k' c v (fun t => nb (five.mpr (.inl t))) (fun t => nb (five.mpr (.inr (.inr (.inl t))))) (fun t => nb (five.mpr (.inr (.inr (.inr (.inl t)))))) (fun t => nb (five.mpr (.inr (.inr (.inr (.inr t)))))) q)) hf (Nat.le_refl _) ok
    refine ⟨.ref s.heap.objs.size, _, I1, rfl, ⟨_, x, y, rfl, I.hok.fresh (Nat.le_refl _), rfl, fun l hl => by rw [Inv_inj I hl gx]; exact hx, fun l hl => by rw [Inv_inj I hl gy]; exact hy⟩, ⟨z'', ?_, ⟨u, u2, ?_⟩, ?_, ?_⟩, fun c hcm => ?_⟩
    · exact (sb.2 _ D.TIz).trans (k' _ _ D.TIz D.TITO D.TIi1 D.TIi2 wp)
    · exact (sb.2 _ D.TOz).trans o'
    · exact a'.to fun v q => (sb.2 _ D.i1z).trans q
    · exact b'.to fun v q => (sb.2 _ D.i2z).trans q
    · have lt : c < s.heap.objs.size := by
        obtain ⟨x0, y0, wo⟩ := wo
        obtain ⟨o1, e1, _⟩ := wa.obj
        obtain ⟨o2, e2, _⟩ := wb.obj
        rcases five.mp hcm with q | q | q | q | q <;> subst q
        · exact lz
        · exact Heap.lt_size wp
        · exact Heap.lt_size wo
        · exact Heap.lt_size e1
        · exact Heap.lt_size e2
      rw [upd_ne (Nat.ne_of_lt lt)]
      exact (hf c hcm).1
  done := by
    intro X hP hw hK hc i pins s σ H E I hf st hg
    subst hP hw hK
    obtain ⟨wz, wp, wo, wa, wb⟩ := st
    obtain ⟨xs, ys, gx, gy, over⟩ := hg
    obtain ⟨its, rv, sx⟩ := Inv_sq I gx
    obtain ⟨its2, rv2, sy⟩ := Inv_sq I gy
    have m1 := rv.length
    have m2 := rv2.length
    have end_ : its.toArray[i]? = none ∨ its2.toArray[i]? = none := over.imp (fun q => by simp; omega) fun q => by simp; omega
    exact nextZ_none (I.ok.hd hc) D ⟨wz, wp, wo, wa, wb, sx, sy⟩ end_ fun h' k' => ⟨rfl, I.turnedL (t' := s.toks) (ch := [z, p, o, i1, i2]) (fun c v nb q => k' c v (fun t => nb (five.mpr (.inl t))) (fun t => nb (five.mpr (.inr (.inr (.inl t))))) (fun t => nb (five.mpr (.inr (.inr (.inr (.inl t)))))) (fun t => nb (five.mpr (.inr (.inr (.inr (.inr t)))))) q) hf⟩
  self := fun A i s Q E st h => wpAny_pyIter_zip st.1 h
def iZipM (K : PySem.W.Frag) (ta : TA) : TI := fun σ H R => ta σ H fun vs H1 => ∃ k1 k2 a b xs ys, vs = [.ref a, .ref b] ∧ SqK k1 K H1 a xs ∧ SqK k2 K H1 b ys ∧ R (ItzM k1 k2 K a b) H1
theorem pi_zipM {X : Cx} {e e2 : Expr} {ta : TA} {p pos tpos : Pos} {elts : List Expr} {kk : Nat} (hg : Gl X "zip") (hm : X.mg "zip" = none) (ha : PA X [e, e2] ta)
    (hs : starEach [e, e2] X.env = (false, eval e X.env) :: starEach [e2] X.env := by rfl) (hpl : (backTo pos (starEach [e2] X.env)).any (·.1) = false := by rfl) :
    PI X (.Tuple elts kk tpos) (.Call (.Name "zip" p) [e, e2] [] pos) (iZipM X.K ta) := by
  refine ⟨fun pins s σ H R I h => ?_⟩
  refine Call_ (ld_blt I hg hm PyProof.Rows.boot_zip (PyProof.Rows.callWith_type1 (thn (ha.run pos pins s σ H _ I h) fun us s1 ⟨vs, H1, I1, r1, k1, k2, a, b, xs, ys, ex, gx, gy, q⟩ => ?_) hs hpl))
  subst ex
  obtain ⟨its, rv, sx⟩ := Inv_sq I1 gx
  obtain ⟨its2, rv2, sy⟩ := Inv_sq I1 gy
  rcases r1 with _ | ⟨r, _ | ⟨r', _ | _⟩⟩
  · cases r
    cases r'
    have fresh : ∀ c, c ∈ [s1.heap.objs.size + 4, s1.heap.objs.size + 2, s1.heap.objs.size + 3, s1.heap.objs.size, s1.heap.objs.size + 1] → FpOk X pins H1 c := fun c hc => by
      have le : s1.heap.objs.size ≤ c := by rcases five.mp hc with z | z | z | z | z <;> subst z <;> first | exact Nat.le_add_right _ _ | exact Nat.le_refl _
      exact I1.fpOk le (I1.hok.fresh le)
    refine call_zipM sx sy fun h' wz wp wo wa wb kp => wpAny_pyIter_zip wz ?_
    exact ⟨s1.heap.objs.size + 4, [s1.heap.objs.size + 4, s1.heap.objs.size + 2, s1.heap.objs.size + 3, s1.heap.objs.size, s1.heap.objs.size + 1], _, _, H1, rfl, I1.kept (t' := s1.toks) kp, turn_zipM (PySem.W.ktu_apart s1.heap.objs.size a b sx.lt sy.lt), ⟨wz, wp, ⟨_, _, wo⟩, wa, wb⟩, fresh, q⟩
end Ev

/-! EvEn: enumerate of a tuple or a list. -/
namespace Ev
open PySem PySem.Spec PyProof.Rows L2
theorem SSq.to {k : Bool} {h h' : Heap} {l : Addr} {xs : Array Value} (x : SSq k h l xs) (e : ∀ o, h.get? l = some o → h'.get? l = some o) : SSq k h' l xs := by
  cases k
  · obtain ⟨o, ho, r⟩ := x; exact ⟨o, e o ho, r⟩
  · obtain ⟨o, ho, r⟩ := x; exact ⟨o, e o ho, r⟩
theorem SSq.ne_enum {k : Bool} {h : Heap} {l e it : Addr} {xs : Array Value} {i : Int} {old : Value} (x : SSq k h l xs) (he : IsEnum h e it i old) : e ≠ l := fun z => by
  subst z
  cases k
  · obtain ⟨o, ho, hc, _⟩ := x
    rw [he] at ho; cases ho
    injection hc with hc
    revert hc; decide
  · obtain ⟨o, ho, hc, _⟩ := x
    rw [he] at ho; cases ho
    injection hc with hc
    revert hc; decide
theorem draws_side {prog : Program} {w : World} {A : Around} {k : Bool} (hh : A.handled = none) (it l : Addr) (hne : l ≠ it) (items : Array Value) :
    Draws prog w A it [it, l] items.size (fun i v => items[i]? = some v) (fun i h => SIt k h it l i ∧ SSq k h l items) where
  live := fun i h st => let ⟨o, e, _⟩ := st.1.obj; ⟨o, e⟩
  frame := fun i h h' st kk => ⟨st.1.to fun o e => kk it (by simp) o e, st.2.to fun o e => kk l (by simp) o e⟩
  item := fun i s Q E hi st q => side_some st.1 st.2 (x := items[i]) (Array.getElem?_eq_getElem hi) fun h' a sb => q _ h' s.toks (Array.getElem?_eq_getElem hi) ⟨a, st.2.ext sb.extBut hne⟩ sb
  done := fun s Q E st q => side_none hh st.1 st.2 (Array.getElem?_eq_none (Nat.le_refl _)) q
theorem SIt.ne {k : Bool} {h : Heap} {i l : Addr} {n : Nat} {xs : Array Value} (x : SIt k h i l n) (y : SSq k h l xs) : l ≠ i := fun z => by
  subst z
  cases k
  · obtain ⟨o, ho, hc, _⟩ := x
    obtain ⟨o2, ho2, hc2, _⟩ := y
    rw [ho] at ho2; cases ho2
    rw [hc] at hc2; revert hc2; decide
  · obtain ⟨o, ho, hc, _⟩ := x
    obtain ⟨o2, ho2, hc2, _⟩ := y
    rw [ho] at ho2; cases ho2
    rw [hc] at hc2; revert hc2; decide
/-- enumerate of a tuple, made -/
theorem made_enumT (l : Addr) (items : Array Value) (n : Nat) (dct : Option Addr) (sl : Array (Option Value)) :
    Meets (Builtin.«enumerate.__new__» ⟨[.type "enumerate", .ref l], []⟩) (fun _ R s => s.heap.get? l = some { cls := .type "tuple", dict := dct, data := .seq items n, slots := sl } ∧
      R (.ok (.ret (.ref (s.heap.push { cls := .type "tuple_iterator", data := .fields #[.ref l, .int 0 0] }).objs.size)))
        { s with heap := (s.heap.push { cls := .type "tuple_iterator", data := .fields #[.ref l, .int 0 0] }).push { cls := .type "enumerate", data := .fields #[.none, .bool false, .ref s.heap.objs.size, rawInt 0, .none, .none] } }) :=
  .of_wp fun prog w A R s h => by
    obtain ⟨hp, g, d, tk, os⟩ := s
    obtain ⟨hl, h⟩ := h
    have hsub := sub_enumerate
    have T : Heap.IsTuple (Shared.heap ⟨hp, g, d, tk, os⟩) l items := ⟨_, hl, rfl, n, rfl⟩
    wp_walk using AutoSeq1.wpAny_loadPart' hl
    refine wpAny_stack_any fun st => wpAny_pure ?_
    split
    · rename_i c _ _ _ _ _
      cases (c == Value.type "enumerate")
      · wp_walk using AutoSeq1.wpAny_loadPart' hl, wpAny_pyIter_tuple T
        exact ⟨_, rfl, h⟩
      · wp_walk using AutoSeq1.wpAny_loadPart' hl, wpAny_pyIter_tuple T
        exact ⟨_, rfl, h⟩
    · wp_walk using AutoSeq1.wpAny_loadPart' hl, wpAny_pyIter_tuple T
      exact ⟨_, rfl, h⟩
section
variable {prog : Program} {w : World} {A : Around} {E : Value → Shared → Prop} {s : Shared}
theorem call_enumM {k : Bool} {l : Addr} {items : Array Value} {Q : Value → Shared → Prop} (hL : SSq k s.heap l items)
    (h : ∀ h', IsEnum h' (s.heap.objs.size + 1) s.heap.objs.size 0 .none → SIt k h' s.heap.objs.size l 0 → (∀ b o, s.heap.get? b = some o → h'.get? b = some o) → Q (.ref (s.heap.objs.size + 1)) { s with heap := h' }) :
    wpAny (model prog w) A (call (.type "enumerate") [.ref l]) Q E s := by
  cases k
  · exact call_enumerate_list hL fun h' a b _ c => h h' a b c
  · obtain ⟨⟨c, dct, dt, sl⟩, hl, hc, n, hd⟩ := hL
    replace hc : c = .type "tuple" := hc
    replace hd : dt = .seq items n := hd
    subst hc hd
    refine callType_new F.called_enumerate (by decide) (F.typeCall_enumerate_1 _) (F.newCall_enumerate_1 _) (fun obj => F.args_object_init_2 obj _) F.entry_enumerate_new (made_enumT l items n dct sl) ⟨hl, ?_⟩
    have hz : (s.heap.push { cls := .type "tuple_iterator", data := .fields #[.ref l, .int 0 0] }).objs.size = s.heap.objs.size + 1 := Heap.size_push ..
    show _ ∧ _
    rw [hz]
    have he : IsEnum ((s.heap.push { cls := .type "tuple_iterator", data := .fields #[.ref l, .int 0 0] }).push { cls := .type "enumerate", data := .fields #[.none, .bool false, .ref s.heap.objs.size, rawInt 0, .none, .none] }) (s.heap.objs.size + 1) s.heap.objs.size 0 .none := by
      have q := Heap.get?_push_size (s.heap.push { cls := .type "tuple_iterator", data := .fields #[.ref l, .int 0 0] }) (o := { cls := .type "enumerate", data := .fields #[.none, .bool false, .ref s.heap.objs.size, rawInt 0, .none, .none] }) rfl
      rw [hz] at q; exact q
    exact ⟨⟨_, he, rfl⟩, h _ he ⟨_, Heap.get?_push_of_some _ (Heap.get?_push_size _ rfl), rfl, rfl⟩ fun b o x => Heap.get?_push_of_some _ (Heap.get?_push_of_some _ x)⟩
end
/-- what is at a as it stands at each turn, each item in a new pair -/
def IteM (k : Bool) (K : PySem.W.Frag) (a : Addr) : L2.It :=
  ⟨fun i H => ∃ (xs : List V) (x : V), SqK k K H a xs ∧ xs[i]? = some x, fun i H v H' => ∃ T x, v = .ref T ∧ H T = none ∧ H' = upd H T (.tup [.int (i : Nat), x]) ∧ ∀ xs, SqK k K H a xs → xs[i]? = some x, fun i H => ∃ xs : List V, SqK k K H a xs ∧ xs.length ≤ i⟩
theorem two_in {b e it : Addr} : b ∈ [e, it] ↔ b = e ∨ b = it := by simp
theorem turn_enumM {P : Program} {w : World} {K : PySem.W.Frag} {elts : List Expr} {kk : Nat} {tpos : Pos} {k : Bool} (a e it : Addr) :
    Turn P w K (.Tuple elts kk tpos) (IteM k K a) [e, it] e (fun i h => (∃ old, IsEnum h e it ((i : Nat) : Int) old) ∧ SIt k h it a i ∧ e ≠ it) where
  mem := two_in.mpr (.inl rfl)
  obj := fun i h st b hb => by
    obtain ⟨⟨old, he⟩, hi, _⟩ := st
    rcases two_in.mp hb with z | z <;> subst z
    · exact ⟨_, he, fun v q => nomatch q⟩
    · obtain ⟨o, ho, f, hd⟩ := hi.obj
      exact ⟨o, ho, fun v q => by rw [hd] at q; cases q⟩
  keep := fun i h h' st kp => let ⟨⟨old, he⟩, hi, hne⟩ := st; ⟨⟨old, kp e (two_in.mpr (.inl rfl)) _ he⟩, hi.to fun o q => kp it (two_in.mpr (.inr rfl)) o q, hne⟩
  item := by
    rintro X rfl rfl rfl hc i pins s σ H E I hf ⟨⟨old, he⟩, hit, hne⟩ ⟨xs, x, hq, hx⟩
    obtain ⟨its, rv, sq⟩ := Inv_sq I hq
    obtain ⟨u, hu, ru⟩ := rv.get hx
    have hel : e < s.heap.objs.size := Heap.lt_size he
    have hil : it < s.heap.objs.size := by obtain ⟨_, q, _⟩ := hit.obj; exact Heap.lt_size q
    have D := draws_side (prog := X.prog) (w := X.w) (A := X.A.in1) (k := k) (I.ok.hd hc) it a (hit.ne sq) its.toArray
    have hlt : i < its.toArray.size := by
      have := (List.getElem?_eq_some_iff.mp hu).1
      simpa using this
    refine wpAny_pyNext_enum_itemD D he ⟨hit, sq⟩ hlt hne (fun z => by
      rcases two_in.mp z with z | z
      · exact hne z
      · exact sq.ne_enum he z) fun y h' tk hy ho hst hT hsz hk => ?_
    have ey : y = u := by
      rw [show its.toArray[i]? = some u by simpa using hu] at hy
      exact (Option.some.inj hy).symm
    subst ey
    refine ⟨_, rfl, wpAny_letOwnedTupleGo_enum (s := { s with heap := h', toks := tk + 1 }) ho fun h'' he' sb => ?_⟩
    have hT2 : h''.get? s.heap.objs.size = some { cls := .type "tuple", data := .seq #[.int i tk, y] } := (sb.2 _ (Nat.ne_of_gt hel)).trans hT
    have new : ObjOk X.prog X.w (upd H s.heap.objs.size (.tup [.int (i : Nat), x])) h'' s.heap.objs.size (.tup [.int (i : Nat), x]) :=
      ⟨by show 2 ≤ sizeLine; decide, [.int i tk, y], .cons ⟨_, rfl⟩ (.cons ru .nil), ⟨_, hT2, rfl, _, rfl⟩⟩
    have I1 : Inv X pins σ (upd H s.heap.objs.size (.tup [.int (i : Nat), x])) { s with heap := h'', toks := tk + 1 } :=
      I.turnedNew (ch := [e, it]) (fun b ob hb q => (sb.2 b (fun z => hb (two_in.mpr (.inl z)))).trans (hk b ob (fun z => hb (two_in.mpr (.inl z))) (fun z => hb (two_in.mpr (.inr z))) q)) hf (Nat.le_refl _) new
    refine ⟨.ref s.heap.objs.size, _, I1, rfl, ⟨_, x, rfl, I.hok.fresh (Nat.le_refl _), rfl, fun ys hy => by rw [Inv_inj I hy hq]; exact hx⟩, ⟨⟨y, ?_⟩, hst.1.to fun o q => (sb.2 it (Ne.symm hne)).trans q, hne⟩, fun b hb => ?_⟩
    · have e1 : ((i + 1 : Nat) : Int) = (i : Int) + 1 := by omega
      rw [e1]; exact he'
    · have hb' : b < s.heap.objs.size := by
        rcases two_in.mp hb with z | z <;> rw [z]
        · exact hel
        · exact hil
      rw [upd_ne (Nat.ne_of_lt hb')]
      exact (hf b hb).1
  done := by
    rintro X rfl rfl rfl hc i pins s σ H E I hf ⟨⟨old, he⟩, hit, hne⟩ ⟨xs, hq, hx⟩
    obtain ⟨its, rv, sq⟩ := Inv_sq I hq
    obtain ⟨f0, f1, f2, f3, f4, f5⟩ := hf it (two_in.mpr (.inr rfl))
    have hl := rv.length
    have hT : s.TypeIs (.ref e) "enumerate" := ⟨_, he, rfl⟩
    unfold pyNext
    refine wpAny_bind (wpAny_attempt (wpAny_callSpecial?_slot (name := Str.ofString "__next__") hT F.slot_enumerate_next (wpAny_call_entry F.slot_enumerate_next hT F.entry_enumerate_next ?_ (F.args_enumerate_next_1 _))))
    change wpAny _ _ (field (.ref e) 2 >>= _) _ _ _
    refine wpAny_bind (wpAny_field he rfl (x := .ref it) rfl ?_)
    refine wpAny_bind (side_none (A := X.A.in1) (I.ok.hd hc) hit sq (Array.getElem?_eq_none (by simp; omega)) fun h' x he' ⟨o, ho, hcl⟩ => ?_)
    refine wpAny_bind (wpAny_isInstance (T := "StopIteration") (b := true) ⟨o, ho, hcl⟩ isSubtype_stop ?_)
    exact wpAny_pure ⟨rfl, I.turned (t' := s.toks) (fun b o hb q => he' b o hb q) f0 f1 f3 f4 f5⟩
  self := fun A i s Q E st h => let ⟨⟨_, he⟩, _⟩ := st; wpAny_pyIter_enum he h
def iEnumM (K : PySem.W.Frag) (ta : TA) : TI := fun σ H R => ta σ H fun vs H1 => ∃ k a xs, vs = [.ref a] ∧ SqK k K H1 a xs ∧ R (IteM k K a) H1
theorem pi_enumM {X : Cx} {e : Expr} {ta : TA} {p pos tpos : Pos} {elts : List Expr} {kk : Nat} (hg : Gl X "enumerate") (hm : X.mg "enumerate" = none) (ha : PA X [e] ta) (hs : starEach [e] X.env = [(false, eval e X.env)] := by rfl) :
    PI X (.Tuple elts kk tpos) (.Call (.Name "enumerate" p) [e] [] pos) (iEnumM X.K ta) := by
  refine ⟨fun pins s σ H R I h => ?_⟩
  refine Call_ (ld_blt I hg hm PyProof.Rows.boot_enumerate (PyProof.Rows.callWith_type1 (thn (ha.run pos pins s σ H _ I h) fun us s1 ⟨vs, H1, I1, r1, k, a, xs, ex, hq, q⟩ => ?_) hs rfl))
  subst ex
  rcases r1 with _ | ⟨r, _ | _⟩
  cases r
  obtain ⟨its, rv, sq⟩ := Inv_sq I1 hq
  refine call_enumM sq fun h' he hit hk => wpAny_pyIter_enum he ?_
  refine ⟨s1.heap.objs.size + 1, [s1.heap.objs.size + 1, s1.heap.objs.size], _, _, H1, rfl, I1.kept (t' := s1.toks) hk, turn_enumM a (s1.heap.objs.size + 1) s1.heap.objs.size, ⟨⟨.none, he⟩, hit, Nat.succ_ne_self _⟩, fun b hb => ?_, q⟩
  have le : s1.heap.objs.size ≤ b := by
    rcases two_in.mp hb with z | z <;> rw [z]
    · exact Nat.le_add_right _ _
    · exact Nat.le_refl _
  exact I1.fpOk le (I1.hok.fresh le)
end Ev

/-! EvI: what is walked. -/
namespace Ev
open PySem PySem.Spec PyProof.Rows L2
theorem PI.imp {X : Cx} {tg e : Expr} {t t' : TI} (h : PI X tg e t) (k : ∀ σ H Q, t' σ H Q → t σ H Q) : PI X tg e t' := ⟨fun pins s σ H Q I q => h.run pins s σ H Q I (k σ H Q q)⟩
theorem PI.or {X : Cx} {tg e : Expr} {t t' : TI} (h : PI X tg e t) (h' : PI X tg e t') : PI X tg e (fun σ H Q => t σ H Q ∨ t' σ H Q) := ⟨fun pins s σ H Q I q => q.elim (fun q => h.run pins s σ H Q I q) fun q => h'.run pins s σ H Q I q⟩
mutual
theorem same_eq : ∀ {x y : PV}, same x y = true → x = y
  | .tup xs, .tup ys, h => by rw [same] at h; rw [sames_eq h]
  | .pl xs, .pl ys, h => by rw [same] at h; rw [sames_eq h]
  | .scr xs, .scr ys, h => by rw [same] at h; rw [sames_eq h]
  | .non, y, h => by cases y <;> simp_all [same]
  | .bl _, y, h => by cases y <;> simp_all [same]
  | .int _, y, h => by cases y <;> simp_all [same]
  | .str _, y, h => by cases y <;> simp_all [same]
  | .ml _, y, h => by cases y <;> simp_all [same]
  | .fn _, y, h => by cases y <;> simp_all [same]
  | .exn, y, h => by cases y <;> simp_all [same]
  | .md _, y, h => by cases y <;> simp_all [same]
  | .dic t xs, .dic u ys, h => by
    rw [same, Bool.and_eq_true, beq_iff_eq] at h
    rw [h.1, sames_eq h.2]
  | .dic _ _, .non, h => by simp [same] at h
  | .dic _ _, .bl _, h => by simp [same] at h
  | .dic _ _, .int _, h => by simp [same] at h
  | .dic _ _, .str _, h => by simp [same] at h
  | .dic _ _, .tup _, h => by simp [same] at h
  | .dic _ _, .pl _, h => by simp [same] at h
  | .dic _ _, .scr _, h => by simp [same] at h
  | .dic _ _, .ml _, h => by simp [same] at h
  | .dic _ _, .fn _, h => by simp [same] at h
  | .dic _ _, .exn, h => by simp [same] at h
  | .dic _ _, .md _, h => by simp [same] at h
  | .tup _, .non, h => by simp [same] at h
  | .tup _, .bl _, h => by simp [same] at h
  | .tup _, .int _, h => by simp [same] at h
  | .tup _, .str _, h => by simp [same] at h
  | .tup _, .pl _, h => by simp [same] at h
  | .tup _, .scr _, h => by simp [same] at h
  | .tup _, .ml _, h => by simp [same] at h
  | .tup _, .fn _, h => by simp [same] at h
  | .tup _, .exn, h => by simp [same] at h
  | .tup _, .dic _ _, h => by simp [same] at h
  | .tup _, .md _, h => by simp [same] at h
  | .pl _, .non, h => by simp [same] at h
  | .pl _, .bl _, h => by simp [same] at h
  | .pl _, .int _, h => by simp [same] at h
  | .pl _, .str _, h => by simp [same] at h
  | .pl _, .tup _, h => by simp [same] at h
  | .pl _, .scr _, h => by simp [same] at h
  | .pl _, .ml _, h => by simp [same] at h
  | .pl _, .fn _, h => by simp [same] at h
  | .pl _, .exn, h => by simp [same] at h
  | .pl _, .dic _ _, h => by simp [same] at h
  | .pl _, .md _, h => by simp [same] at h
  | .scr _, .non, h => by simp [same] at h
  | .scr _, .bl _, h => by simp [same] at h
  | .scr _, .int _, h => by simp [same] at h
  | .scr _, .str _, h => by simp [same] at h
  | .scr _, .tup _, h => by simp [same] at h
  | .scr _, .pl _, h => by simp [same] at h
  | .scr _, .ml _, h => by simp [same] at h
  | .scr _, .fn _, h => by simp [same] at h
  | .scr _, .exn, h => by simp [same] at h
  | .scr _, .dic _ _, h => by simp [same] at h
  | .scr _, .md _, h => by simp [same] at h
theorem sames_eq : ∀ {xs ys : List PV}, sames xs ys = true → xs = ys
  | [], [], _ => rfl
  | [], _ :: _, h => by simp [sames] at h
  | _ :: _, [], h => by simp [sames] at h
  | x :: xs, y :: ys, h => by
    rw [sames, Bool.and_eq_true] at h
    rw [same_eq h.1, sames_eq h.2]
end
mutual
theorem same_refl : ∀ (x : PV), same x x = true
  | .tup xs => by rw [same]; exact sames_refl xs
  | .pl xs => by rw [same]; exact sames_refl xs
  | .scr xs => by rw [same]; exact sames_refl xs
  | .non => by simp [same]
  | .bl _ => by simp [same]
  | .int _ => by simp [same]
  | .str _ => by simp [same]
  | .ml _ => by simp [same]
  | .fn _ => by simp [same]
  | .exn => by simp [same]
  | .dic t xs => by rw [same, sames_refl xs]; simp
  | .md _ => by simp [same]
theorem sames_refl : ∀ (xs : List PV), sames xs xs = true
  | [] => by simp [sames]
  | x :: xs => by rw [sames, same_refl x, sames_refl xs]; rfl
end
/-- the iterator J hands out xs while the lists ks stay -/
structure Walk (G : Pl) (J : L2.It) (xs : List PV) (ks : List (Nat × List PV)) (μ0 : Mu) (H0 : Hp) : Prop where
  go : ∀ i, i < xs.length → ∀ μ H st, Wid μ0 H0 μ H → RepSt G μ H st → keeps st ks = true → J.go i H
  yld : ∀ i x, xs[i]? = some x → ∀ μ H st v H', Wid μ0 H0 μ H → RepSt G μ H st → keeps st ks = true → J.yld i H v H' → Ext μ H μ H' ∧ RepSt G μ H' st ∧ Rep G μ H' x v
  stop : ∀ i, xs.length ≤ i → ∀ μ H st, Wid μ0 H0 μ H → RepSt G μ H st → keeps st ks = true → J.stop i H

section
variable {G : Pl} {μ : Mu} {H : Hp} {st : Sto}
/-- a list-like thing at a: what it holds as long as ks are kept -/
def LL (G : Pl) (xs : List PV) (ks : List (Nat × List PV)) (μ0 : Mu) (H0 : Hp) (a : Addr) : Prop := ∀ μ H st, Wid μ0 H0 μ H → RepSt G μ H st → keeps st ks = true → ∃ vs, SqL G.K H a vs ∧ Reps G μ H xs vs
def TT_ (G : Pl) (xs : List PV) (μ0 : Mu) (H0 : Hp) (a : Addr) : Prop := ∀ μ H, Wid μ0 H0 μ H → ∃ vs, SqT G.K H a vs ∧ Reps G μ H xs vs
/-- what a value walks -/
theorem ll_of (s : RepSt G μ H st) {x : PV} {v : V} {src : Src} (h : Rep G μ H x v) (e : srcOf st x = some src) (hne : ∀ ys, x ≠ .tup ys) : ∃ a, v = .ref a ∧ LL G src.1 src.2 μ H a := by
  cases x <;> simp only [srcOf] at e <;> first | cases e | skip
  · exact absurd rfl (hne _)
  · obtain ⟨a, vs, rfl, h1, h2, h3⟩ := h
    exact ⟨a, rfl, fun μ' H' st' e s' _ => ⟨vs, SqL.of (e.keep _ _ h2 h1).1, h3.widen e⟩⟩
  · have h0 := h
    obtain ⟨a, vs, rfl, h1, h2⟩ := h
    refine ⟨a, rfl, fun μ' H' st' e s' _ => ?_⟩
    obtain ⟨b, ws, eb, q1, q2⟩ := scr_sql (h0.widen e)
    cases eb
    exact ⟨ws, q1, q2⟩
  · obtain ⟨a, rfl, h1, h2⟩ := h
    obtain ⟨xs, e1, rfl⟩ := Option.map_eq_some_iff.mp e
    refine ⟨a, rfl, fun μ' H' st' e s' k => ?_⟩
    rename_i i _
    have k : ((match st'[i]? with | some ys => sames xs ys | none => false) && true) = true := k
    cases q : st'[i]? with
    | none => rw [q] at k; cases k
    | some ys =>
      rw [q] at k
      have k' : sames xs ys = true := by simpa using k
      rw [sames_eq k']
      obtain ⟨ν, z⟩ := e.pre
      obtain ⟨vs, g2, g3⟩ := s'.at_ i ys q (a := a) (by rw [z, List.getElem?_append_left (List.getElem?_eq_some_iff.mp h1).1]; exact h1) (e.kl a (List.mem_of_getElem? h1) h2)
      exact ⟨vs, SqL.of g2, g3⟩
theorem tt_of {xs : List PV} {v : V} (h : Rep G μ H (.tup xs) v) : ∃ a, v = .ref a ∧ TT_ G xs μ H a := by
  obtain ⟨a, vs, rfl, h1, h2⟩ := h
  exact ⟨a, rfl, fun μ' H' e => ⟨vs, e.tup h1, h2.widen e⟩⟩
theorem keeps_of {x : PV} {src : Src} (e : srcOf st x = some src) : keeps st src.2 = true := by
  cases x <;> simp only [srcOf] at e <;> first | cases e | skip
  · rfl
  · rfl
  · rfl
  · obtain ⟨xs, e1, rfl⟩ := Option.map_eq_some_iff.mp e
    show ((match st[_]? with | some ys => sames xs ys | none => false) && true) = true
    rw [e1]; simp [sames_refl]
theorem keeps_append {ks ks' : List (Nat × List PV)} : keeps st (ks ++ ks') = (keeps st ks && keeps st ks') := by
  induction ks with
  | nil => rfl
  | cons k r ih =>
    obtain ⟨i, xs⟩ := k
    show (_ && keeps st (r ++ ks')) = ((_ && keeps st r) && keeps st ks')
    rw [ih, Bool.and_assoc]
theorem LL.ext_ {xs : List PV} {ks : List (Nat × List PV)} {a : Addr} {μ1 : Mu} {H1 : Hp} (e : Ext μ H μ1 H1) (l : LL G xs ks μ H a) : LL G xs ks μ1 H1 a := fun μ' H' st' e' s' k => l μ' H' st' (e.wid.trans e') s' k
theorem walk_list {xs : List PV} {ks : List (Nat × List PV)} {a : Addr} (l : LL G xs ks μ H a) : Walk G (Itl G.K a) xs ks μ H where
  go := fun i hi μ' H' st' e s k => by
    obtain ⟨vs, q1, q2⟩ := l μ' H' st' e s k
    obtain ⟨v, q3, _⟩ := q2.get (List.getElem?_eq_getElem hi)
    exact ⟨vs, v, q1, q3⟩
  yld := fun i x hx μ' H' st' v H2 e s k y => by
    obtain ⟨rfl, y⟩ := y
    obtain ⟨vs, q1, q2⟩ := l μ' H2 st' e s k
    obtain ⟨w, q3, q4⟩ := q2.get hx
    have := y vs q1
    rw [q3] at this; cases this
    exact ⟨Ext.refl s, s, q4⟩
  stop := fun i hi μ' H' st' e s k => by
    obtain ⟨vs, q1, q2⟩ := l μ' H' st' e s k
    exact ⟨vs, q1, by rw [← q2.length]; exact hi⟩
theorem walk_tup {xs : List PV} {a : Addr} (l : TT_ G xs μ H a) : Walk G (Itt G.K a) xs [] μ H where
  go := fun i hi μ' H' st' e s k => by
    obtain ⟨vs, q1, q2⟩ := l μ' H' e
    obtain ⟨v, q3, _⟩ := q2.get (List.getElem?_eq_getElem hi)
    exact ⟨vs, v, q1, q3⟩
  yld := fun i x hx μ' H' st' v H2 e s k y => by
    obtain ⟨rfl, y⟩ := y
    obtain ⟨vs, q1, q2⟩ := l μ' H2 e
    obtain ⟨w, q3, q4⟩ := q2.get hx
    have := y vs q1
    rw [q3] at this; cases this
    exact ⟨Ext.refl s, s, q4⟩
  stop := fun i hi μ' H' st' e s k => by
    obtain ⟨vs, q1, q2⟩ := l μ' H' e
    exact ⟨vs, q1, by rw [← q2.length]; exact hi⟩
theorem upto_get {m : Int} : ∀ (k : Nat) (i : Int) (j : Nat), (upto m k i)[j]? = if j < k then some (.int (i + j)) else none
  | 0, i, j => by simp [upto]
  | k + 1, i, 0 => by simp [upto]
  | k + 1, i, j + 1 => by
    have := upto_get (m := m) k (i + 1) j
    simp only [upto, List.getElem?_cons_succ, this]
    by_cases h : j < k
    · rw [if_pos h, if_pos (by omega)]; congr 2; omega
    · rw [if_neg h, if_neg (by omega)]
theorem upto_len {m : Int} : ∀ (k : Nat) (i : Int), (upto m k i).length = k
  | 0, i => by simp [upto]
  | k + 1, i => by simp [upto, upto_len (m := m) k (i + 1)]
theorem walk_range {m lo : Int} {k : Nat} : Walk G (Itr lo k) (upto m k lo) [] μ H where
  go := fun i hi μ' H' st' e s _ => by rw [upto_len] at hi; exact hi
  yld := fun i x hx μ' H' st' v H2 e s _ y => by
    obtain ⟨rfl, rfl⟩ := y
    rw [upto_get] at hx
    split at hx
    · cases hx; exact ⟨Ext.refl s, s, rfl⟩
    · cases hx
  stop := fun i hi μ' H' st' e s _ => by rw [upto_len] at hi; exact hi
theorem zipT_get : ∀ (xs ys : List PV) (i : Nat), (zipT xs ys)[i]? = match xs[i]?, ys[i]? with | some x, some y => some (.tup [x, y]) | _, _ => none
  | [], ys, i => by simp [zipT]
  | x :: xs, [], i => by
    simp only [zipT, List.getElem?_nil]
    cases (x :: xs)[i]? <;> rfl
  | x :: xs, y :: ys, 0 => by simp [zipT]
  | x :: xs, y :: ys, i + 1 => by simp [zipT, zipT_get xs ys i]
theorem zipT_len : ∀ (xs ys : List PV), (zipT xs ys).length = min xs.length ys.length
  | [], ys => by simp [zipT]
  | x :: xs, [] => by simp [zipT]
  | x :: xs, y :: ys => by simp [zipT, zipT_len xs ys]
theorem enumT_get : ∀ (xs : List PV) (i0 : Int) (i : Nat), (enumT i0 xs)[i]? = (xs[i]?).map fun x => .tup [.int (i0 + i), x]
  | [], _, i => by simp [enumT]
  | x :: xs, i0, 0 => by simp [enumT]
  | x :: xs, i0, i + 1 => by
    simp only [enumT, List.getElem?_cons_succ, enumT_get xs (i0 + 1) i]
    congr 1; funext y; congr 3; push_cast; omega
theorem enumT_len : ∀ (xs : List PV) (i0 : Int), (enumT i0 xs).length = xs.length
  | [], _ => by simp [enumT]
  | x :: xs, i0 => by simp [enumT, enumT_len xs (i0 + 1)]
/-- a new pair -/
theorem new_pair (s : RepSt G μ H st) {p : Addr} {x y : PV} {u v : V} (hp : H p = none) (hx : Rep G μ H x u) (hy : Rep G μ H y v) : Ext μ H μ (upd H p (.tup [u, v])) ∧ RepSt G μ (upd H p (.tup [u, v])) st ∧ Rep G μ (upd H p (.tup [u, v])) (.tup [x, y]) (.ref p) := by
  have e := Ext.new (G := G) (o := .tup [u, v]) s hp
  exact ⟨e, s.new hp, p, [u, v], rfl, .inl (.inl upd_same), ⟨u, [v], rfl, hx.mono e, v, [], rfl, hy.mono e, rfl⟩⟩
/-- a tuple or a list that stays -/
def KK (G : Pl) (k : Bool) (xs : List PV) (ks : List (Nat × List PV)) (μ : Mu) (H : Hp) (a : Addr) : Prop := ∀ μ' H' st', Wid μ H μ' H' → RepSt G μ' H' st' → keeps st' ks = true → ∃ vs, SqK k G.K H' a vs ∧ Reps G μ' H' xs vs
theorem walk_zipM {k1 k2 : Bool} {xs ys : List PV} {ks ks' : List (Nat × List PV)} {a b : Addr} (l : KK G k1 xs ks μ H a) (l' : KK G k2 ys ks' μ H b) : Walk G (ItzM k1 k2 G.K a b) (zipT xs ys) (ks ++ ks') μ H where
  go := fun i hi μ' H' st' e s k => by
    rw [keeps_append, Bool.and_eq_true] at k
    obtain ⟨vs, q1, q2⟩ := l μ' H' st' e s k.1
    obtain ⟨ws, p1, p2⟩ := l' μ' H' st' e s k.2
    rw [zipT_len] at hi
    obtain ⟨v, q3, _⟩ := q2.get (List.getElem?_eq_getElem (show i < xs.length by omega))
    obtain ⟨w, p3, _⟩ := p2.get (List.getElem?_eq_getElem (show i < ys.length by omega))
    exact ⟨vs, ws, v, w, q1, p1, q3, p3⟩
  yld := fun i x hx μ' H' st' v H2 e s k y => by
    rw [keeps_append, Bool.and_eq_true] at k
    obtain ⟨p, u, w, rfl, hp, rfl, y1, y2⟩ := y
    obtain ⟨vs, q1, q2⟩ := l μ' H' st' e s k.1
    obtain ⟨ws, p1, p2⟩ := l' μ' H' st' e s k.2
    rw [zipT_get] at hx
    split at hx
    · rename_i x1 x2 e1 e2
      cases hx
      obtain ⟨u', q3, q4⟩ := q2.get e1
      obtain ⟨w', p3, p4⟩ := p2.get e2
      have z1 := y1 vs q1
      rw [q3] at z1; cases z1
      have z2 := y2 ws p1
      rw [p3] at z2; cases z2
      exact new_pair s hp q4 p4
    · cases hx
  stop := fun i hi μ' H' st' e s k => by
    rw [keeps_append, Bool.and_eq_true] at k
    obtain ⟨vs, q1, q2⟩ := l μ' H' st' e s k.1
    obtain ⟨ws, p1, p2⟩ := l' μ' H' st' e s k.2
    rw [zipT_len, q2.length, p2.length] at hi
    exact ⟨vs, ws, q1, p1, by omega⟩
theorem walk_enum {k : Bool} {xs : List PV} {ks : List (Nat × List PV)} {a : Addr} (l : KK G k xs ks μ H a) : Walk G (IteM k G.K a) (enumT 0 xs) ks μ H where
  go := fun i hi μ' H' st' e s kp => by
    obtain ⟨vs, q1, q2⟩ := l μ' H' st' e s kp
    rw [enumT_len] at hi
    obtain ⟨v, q3, _⟩ := q2.get (List.getElem?_eq_getElem hi)
    exact ⟨vs, v, q1, q3⟩
  yld := fun i x hx μ' H' st' v H2 e s kp y => by
    obtain ⟨p, u, rfl, hp, rfl, y1⟩ := y
    obtain ⟨vs, q1, q2⟩ := l μ' H' st' e s kp
    rw [enumT_get] at hx
    obtain ⟨x1, e1, rfl⟩ := Option.map_eq_some_iff.mp hx
    obtain ⟨u', q3, q4⟩ := q2.get e1
    have z1 := y1 vs q1
    rw [q3] at z1; cases z1
    rw [Int.zero_add]
    exact new_pair s hp rfl q4
  stop := fun i hi μ' H' st' e s kp => by
    obtain ⟨vs, q1, q2⟩ := l μ' H' st' e s kp
    rw [enumT_len] at hi
    exact ⟨vs, q1, by rw [← q2.length]; exact hi⟩
end
/-- the keys of the dict at d, as it stands at each turn -/
def ItK (w : World) (d : Addr) (n : Nat) : L2.It :=
  ⟨fun i H => i < n ∧ ∃ o ys, H d = some (dO d o) ∧ DictO w d o ys ∧ ys.length = n, fun i H v H' => H' = H ∧ ∀ o ys, H d = some (dO d o) → DictO w d o ys → ∃ y, ys[i]? = some y ∧ v = .ref y.2.1, fun i H => n ≤ i ∧ ∃ o ys, H d = some (dO d o) ∧ DictO w d o ys ∧ ys.length = n⟩
theorem DictO.key_at {w : World} {d : Addr} {o : Obj} {ys zs : List Ent} {i : Nat} {y : Ent} (D : DictO w d o ys) (D' : DictO w d o zs) (h : ys[i]? = some y) : ∃ z, zs[i]? = some z ∧ V.ref y.2.1 = .ref z.2.1 := by
  obtain ⟨es, e1, e2⟩ := D.dat
  obtain ⟨fs, f1, f2⟩ := D'.dat
  rw [e1] at f1
  injection f1 with f3 f4
  subst f3
  have q : (zs[i]?).map (entN w) = some (entN w y) := by rw [← List.getElem?_map, ← f2, e2, List.getElem?_map, h]; rfl
  obtain ⟨z, g1, g2⟩ := Option.map_eq_some_iff.mp q
  refine ⟨z, g1, ?_⟩
  have : Value.ref z.2.1 = Value.ref y.2.1 := congrArg DictEntry.key g2
  injection this with this
  rw [this]
theorem turn_dict {P : Program} {w : World} {K : PySem.W.Frag} {tg : Expr} (it d : Addr) (n : Nat) : Turn P w K tg (ItK w d n) [it] it (fun i h => h.IsKeyIter it d i n n) where
  mem := List.mem_singleton.mpr rfl
  obj := fun i h ⟨oi, e, _, dd⟩ b hb => ⟨oi, (List.mem_singleton.mp hb).symm ▸ e, fun v z => by rw [dd] at z; cases z⟩
  keep := fun i h h' st k => st.at fun oi e => k it (List.mem_singleton.mpr rfl) oi e
  item := by
    rintro X rfl rfl rfl hc i pins s σ H E I hf st ⟨hi, o, ys, hd, D, rfl⟩
    obtain ⟨f0, f1, f2, f3, f4, f5⟩ := hf it (List.mem_singleton.mpr rfl)
    obtain ⟨es, hdt, hes⟩ := D.dat
    have hsz : es.size = ys.length := by rw [← Array.length_toList, hes, List.length_map]
    have en : es[i]? = some (entN X.w ys[i]) := by rw [← Array.getElem?_toList, hes, List.getElem?_map, List.getElem?_eq_getElem hi]; rfl
    refine next_key_item st (dO_at I hd) hdt hsz en fun h' st' sb => ?_
    have I1 : Inv X pins σ H { s with heap := h' } := I.turned (t' := s.toks) (fun b ob hb e => (sb.2 b hb).trans e) f0 f1 f3 f4 f5
    obtain ⟨oi, e, cc, dd⟩ := id st'
    exact ⟨_, rfl, go_of (s := { s with heap := h' }) e cc dd (by decide) ⟨.ref ys[i].2.1, H, I1, rfl, ⟨rfl, fun o2 zs z1 z2 => by
      have : o2 = o := Option.some.inj ((dO_at I z1).symm.trans (dO_at I hd))
      subst this
      exact D.key_at z2 (List.getElem?_eq_getElem hi)⟩, st', fun b hb => (hf b hb).1⟩⟩
  done := by
    rintro X rfl rfl rfl hc i pins s σ H E I hf st ⟨hi, o, ys, hd, D, rfl⟩
    obtain ⟨f0, f1, f2, f3, f4, f5⟩ := hf it (List.mem_singleton.mpr rfl)
    obtain ⟨es, hdt, hes⟩ := D.dat
    exact next_key_end (I.ok.hd hc) st (dO_at I hd) hdt (by rw [← Array.length_toList, hes, List.length_map]) hi fun h' eb => ⟨rfl, I.turned (t' := s.toks) (fun b ob hb e => eb b ob hb e) f0 f1 f3 f4 f5⟩
  self := fun A i s Q E st h => wpAny_pyIter_keyiter st h
def iDict (w : World) (td : TE) : TI := fun σ H R => td σ H fun x H1 => ∃ d o ys, x = .ref d ∧ H1 d = some (dO d o) ∧ DictO w d o ys ∧ R (ItK w d ys.length) H1
theorem pi_dict {X : Cx} {tg e : Expr} {td : TE} (he : PE X e td) : PI X tg e (iDict X.w td) := by
  refine ⟨fun pins s σ H R I h => ?_⟩
  refine thn (he.run pins s σ H _ I h) fun u s1 ⟨x, H1, I1, rx, d, o, ys, ex, hd, D, q⟩ => ?_
  subst ex
  obtain rfl : u = Value.ref d := rx
  obtain ⟨es, hdt, hes⟩ := D.dat
  have hsz : es.size = ys.length := by rw [← Array.length_toList, hes, List.length_map]
  refine iter_keys D.nsys (dO_at I1 hd) D.ex hdt (pi_one (tk := s1.toks) I1 _ (turn_dict _ d ys.length) ⟨_, Heap.get?_push_size _ rfl, rfl, ?_⟩ q)
  rw [hsz] <;> rfl
section
variable {G : Pl} {μ : Mu} {H : Hp} {st : Sto}
/-- a dict at a: its keys, as long as ks are kept -/
def DD (G : Pl) (xs : List PV) (ks : List (Nat × List PV)) (μ0 : Mu) (H0 : Hp) (a : Addr) (n : Nat) : Prop := ∀ μ H st, Wid μ0 H0 μ H → RepSt G μ H st → keeps st ks = true → ∃ o ys, H a = some (dO a o) ∧ DictO G.w a o ys ∧ ys.length = n ∧ Reps G μ H xs (keyV ys)
theorem walk_dict {xs : List PV} {ks : List (Nat × List PV)} {a : Addr} {n : Nat} (hn : xs.length = n) (l : DD G xs ks μ H a n) : Walk G (ItK G.w a n) xs ks μ H where
  go := fun i hi μ' H' st' e s k => by
    obtain ⟨o, ys, q1, q2, q3, _⟩ := l μ' H' st' e s k
    exact ⟨by omega, o, ys, q1, q2, q3⟩
  yld := fun i x hx μ' H' st' v H2 e s k y => by
    obtain ⟨rfl, y⟩ := y
    obtain ⟨o, ys, q1, q2, q3, q4⟩ := l μ' H2 st' e s k
    obtain ⟨z, e1, rfl⟩ := y o ys q1 q2
    obtain ⟨w, q5, q6⟩ := q4.get hx
    have : w = .ref z.2.1 := by
      rw [List.getElem?_map, e1] at q5
      exact (Option.some.inj q5).symm
    rw [this] at q6
    exact ⟨Ext.refl s, s, q6⟩
  stop := fun i hi μ' H' st' e s k => by
    obtain ⟨o, ys, q1, q2, q3, _⟩ := l μ' H' st' e s k
    exact ⟨by omega, o, ys, q1, q2, q3⟩
theorem keeps_one {i : Nat} {xs : List PV} (h : keeps st [(i, xs)] = true) : st[i]? = some xs := by
  have k : ((match st[i]? with | some ys => sames xs ys | none => false) && true) = true := h
  cases q : st[i]? with
  | none => rw [q] at k; cases k
  | some ys =>
    rw [q] at k
    have k' : sames xs ys = true := by simpa using k
    rw [sames_eq k']
theorem keeps_one' {i : Nat} {xs : List PV} (h : st[i]? = some xs) : keeps st [(i, xs)] = true := by
  show ((match st[i]? with | some ys => sames xs ys | none => false) && true) = true
  rw [h]; simp [sames_refl]
/-- what a dict walks -/
theorem dd_of (s : RepSt G μ H st) {x : PV} {v : V} {src : Src} (h : Rep G μ H x v) (e : srcS st x = some src) (hd : isDic x = true) : ∃ a o ys, v = .ref a ∧ H a = some (dO a o) ∧ DictO G.w a o ys ∧ keeps st src.2 = true ∧ src.1.length = ys.length ∧ DD G src.1 src.2 μ H a ys.length := by
  cases x <;> first | (cases hd; done) | skip
  · rename_i t xs
    cases t
    · cases e
    · cases e
      obtain ⟨a, vs, o, ys, rfl, h1, h2, h3, h4, h5, h6⟩ := h
      refine ⟨a, o, ys, rfl, h2, h3, rfl, by rw [dkeys_len h4, List.length_map], fun μ' H' st' w _ _ => ⟨o, ys, (w.keep _ _ h2 h1).1, h3, rfl, (dkeys_reps h4 h5 (h6.widen w)).1⟩⟩
  · rename_i i
    obtain ⟨xs, e1, rfl⟩ := Option.map_eq_some_iff.mp e
    obtain ⟨a, rfl, h1, h2⟩ := h
    obtain ⟨vs, o, ys, q1, q2, q3, q4, q5⟩ := s.atD i xs e1 h1 h2
    refine ⟨a, o, ys, rfl, q1, q2, keeps_one' e1, by rw [dkeys_len q3, List.length_map], fun μ' H' st' w s' k => ?_⟩
    obtain ⟨ν, z⟩ := w.pre
    obtain ⟨vs', o', ys', p1, p2, p3, p4, p5⟩ := s'.atD i xs (keeps_one k) (a := a) (by rw [z, List.getElem?_append_left (List.getElem?_eq_some_iff.mp h1).1]; exact h1) (w.kd a (List.mem_of_getElem? h1) h2)
    refine ⟨o', ys', p1, p2, ?_, (dkeys_reps p3 p4 p5).1⟩
    have := q3.symm.trans p3
    have := congrArg List.length (Option.some.inj this)
    simpa using this.symm
end
/-- what a loop walks -/
def tI (T : Tp) (n : Nat) (W : WX) (it : Ev.It) : TI := fun σ H R => ∃ (μ : Mu) (env : Env) (st : Sto), RS T.G μ H env st σ ∧ Post T.G W μ H σ (evIt (T.cl n) T.gs T.ar it env st) (fun src μ st H => ∀ J : L2.It, keeps st src.2 = true → Walk T.G J src.1 src.2 μ H → R J H)
section
variable {T : Tp} {n : Nat} {X : Cx} {W : WX} {pos : Pos} {a b tg : Expr} {rest : List Expr} {ea eb : E} {er es : Es}
theorem srcS_of {st : Sto} {x : PV} {src : Src} (e : srcS st x = some src) : (∃ z, x = .str z ∧ src = (z.map fun c => .str [c], [])) ∨ isDic x = true ∨ srcOf st x = some src := by
  cases x <;> first | exact .inr (.inr e) | (cases e; exact .inl ⟨_, rfl, rfl⟩) | exact .inr (.inl rfl)
theorem walk_signs {G : Pl} {μ : Mu} {H : Hp} {z : List Nat} : Walk G (Its ⟨z.toArray⟩) (z.map fun c => .str [c]) [] μ H where
  go := fun i hi μ' H' st' e s _ => by
    rw [List.length_map] at hi
    show i < z.toArray.size
    rw [List.size_toArray]; exact hi
  yld := fun i x hx μ' H' st' v H2 e s _ y => by
    obtain ⟨rfl, c, ec, rfl⟩ := y
    rw [List.getElem?_map] at hx
    have ec' : z[i]? = some c := by simpa using ec
    rw [ec'] at hx
    cases hx
    exact ⟨Ext.refl s, s, rfl⟩
  stop := fun i hi μ' H' st' e s _ => by
    rw [List.length_map] at hi
    show z.toArray.size ≤ i
    rw [List.size_toArray]; exact hi
theorem it_e (C : Cok T n X W) (ha : PE X a (tE T n W ea)) : PI X tg a (tI T n W (.e ea)) :=
  PI.imp (PI.or (pi_tup ha) (PI.or (pi_list ha) (PI.or (pi_str ha) (pi_dict ha)))) fun σ H Q ⟨μ, env, st, rs, p⟩ => by
    rw [evIt] at p
    rw [C.K]
    by_cases ht : ∃ ys st1, evE (T.cl n) T.gs T.ar ea env st = .ok (.tup ys) st1
    · obtain ⟨ys, st1, ht⟩ := ht
      refine .inl ⟨μ, env, st, rs, p.bind.mono fun x μ1 st1 H1 hx e1 s1 p1 v rv => ?_⟩
      rw [ht] at hx; cases hx
      obtain ⟨c, rfl, l⟩ := tt_of rv
      obtain ⟨src, e, q⟩ := Post.toR p1 s1
      cases e
      obtain ⟨vs, q1, _⟩ := l μ1 H1 Wid.refl
      exact ⟨c, rfl, ⟨vs, q1⟩, q _ rfl (walk_tup l)⟩
    · by_cases hs : ∃ z st1, evE (T.cl n) T.gs T.ar ea env st = .ok (.str z) st1
      · obtain ⟨z, st1, hs⟩ := hs
        refine .inr (.inr (.inl ⟨μ, env, st, rs, p.bind.mono fun x μ1 st1 H1 hx e1 s1 p1 v rv => ?_⟩))
        rw [hs] at hx; cases hx
        cases (show v = .str ⟨z.toArray⟩ from rv)
        obtain ⟨src, e, q⟩ := Post.toR p1 s1
        cases e
        exact ⟨_, rfl, q _ rfl walk_signs⟩
      · by_cases hd : ∃ x st1, evE (T.cl n) T.gs T.ar ea env st = .ok x st1 ∧ isDic x = true
        · obtain ⟨y, st1, hy, hd⟩ := hd
          refine .inr (.inr (.inr ⟨μ, env, st, rs, p.bind.mono fun x μ1 st1 H1 hx e1 s1 p1 v rv => ?_⟩))
          rw [hy] at hx; cases hx
          obtain ⟨src, e, q⟩ := Post.toR p1 s1
          obtain ⟨a, o, ys, rfl, q1, q2, q3, q4, q5⟩ := dd_of s1 rv e hd
          rw [C.gw]
          exact ⟨a, o, ys, rfl, q1, q2, q _ q3 (walk_dict q4 q5)⟩
        · refine .inr (.inl ⟨μ, env, st, rs, p.bind.mono fun x μ1 st1 H1 hx e1 s1 p1 v rv => ?_⟩)
          obtain ⟨src, e, q⟩ := Post.toR p1 s1
          have e : srcOf st1 x = some src := ((srcS_of e).resolve_left fun ⟨z, ez, _⟩ => hs ⟨z, st1, by rw [hx, ez]⟩).resolve_left fun z => hd ⟨x, st1, hx, z⟩
          obtain ⟨c, rfl, l⟩ := ll_of s1 rv e fun ys z => ht ⟨ys, st1, by rw [hx, z]⟩
          obtain ⟨vs, q1, _⟩ := l μ1 H1 st1 Wid.refl s1 (keeps_of e)
          exact ⟨c, rfl, ⟨vs, q1⟩, q _ (keeps_of e) (walk_list l)⟩
theorem evEs_len : ∀ {es : Es} {env : Env} {st st' : Sto} {xs : List PV}, (∀ e r, es = .cons e r → ∀ y, e ≠ .star y) → evEs (T.cl n) T.gs T.ar es env st = .ok xs st' → es = .nil ∧ xs = [] ∨ ∃ e r x ys st1 st2, es = .cons e r ∧ xs = x :: ys ∧ evE (T.cl n) T.gs T.ar e env st = .ok x st1 ∧ evEs (T.cl n) T.gs T.ar r env st1 = .ok ys st2
  | .nil, env, st, st', xs, _, h => by rw [evEs] at h; cases h; exact .inl ⟨rfl, rfl⟩
  | .cons e r, env, st, st', xs, hn, h => by
    rw [evEs.eq_3 _ _ _ _ _ _ _ (fun x z => hn e r rfl x z)] at h
    obtain ⟨x, st1, h1, h⟩ := R.bind_ok h
    obtain ⟨ys, st2, h2, h⟩ := R.bind_ok h
    cases h
    exact .inr ⟨e, r, x, ys, st1, _, rfl, rfl, h1, h2⟩
theorem it_range1 {p : Pos} (K : T.Md) (C : Cok T n X W) (hg : Gl X "range") (hn : ∀ y, ea ≠ .star y) (hs : notStar a = true) (ha : PA X [a] (tEs T n W (.cons ea .nil))) : PI X tg (.Call (.Name "range" p) [a] [] pos) (tI T n W (.range (.cons ea .nil))) :=
  PI.imp (pi_range1 hg (by rw [C.mg]; exact K.blt _ (by decide +kernel)) ha (by rw [starEach_cons hs]; rfl)) fun σ H Q ⟨μ, env, st, rs, p⟩ => by
    rw [evIt] at p
    refine ⟨μ, env, st, rs, p.bind.mono fun xs μ1 st1 H1 hx e1 s1 p1 vs rv => ?_⟩
    obtain ⟨ys, e, q⟩ := Post.toR p1.bind s1
    rcases evEs_len (fun e r z y => by cases z; exact hn y) hx with ⟨h, _⟩ | ⟨e', r, x, zs, st2, st3, h1, h2, h3, h4⟩
    · cases h
    · cases h1
      rw [evEs] at h4; cases h4
      subst h2
      obtain ⟨v, rfl, rv1⟩ := reps1 rv
      cases x with
      | int m =>
        have e : (if (decide (-4611686018427387904 ≤ m) && decide (m < 4611686018427387904)) = true then some (upto m m.toNat 0) else none) = some ys := e
        split at e
        · rename_i hb
          rw [Bool.and_eq_true, decide_eq_true_eq, decide_eq_true_eq] at hb
          cases e
          cases (show v = .int m from rv1)
          exact ⟨m, rfl, by have := hb.1; omega, by have := hb.2; omega, Post.ok q s1 _ rfl walk_range⟩
        · cases e
      | _ => cases e
theorem it_range2 {p : Pos} (K : T.Md) (C : Cok T n X W) (hg : Gl X "range") (hn : ∀ y, ea ≠ .star y) (hn2 : ∀ y, eb ≠ .star y) (hs : notStar a = true) (hs2 : notStar b = true) (ha : PA X [a, b] (tEs T n W (.cons ea (.cons eb .nil)))) : PI X tg (.Call (.Name "range" p) [a, b] [] pos) (tI T n W (.range (.cons ea (.cons eb .nil)))) :=
  PI.imp (pi_range2 hg (by rw [C.mg]; exact K.blt _ (by decide +kernel)) ha (by rw [starEach_cons hs, starEach_cons hs2]; rfl) (by rw [starEach_cons hs2]; rfl)) fun σ H Q ⟨μ, env, st, rs, p⟩ => by
    rw [evIt] at p
    refine ⟨μ, env, st, rs, p.bind.mono fun xs μ1 st1 H1 hx e1 s1 p1 vs rv => ?_⟩
    obtain ⟨ys, e, q⟩ := Post.toR p1.bind s1
    rcases evEs_len (fun e r z y => by cases z; exact hn y) hx with ⟨h, _⟩ | ⟨e', r, x, zs, st2, st3, h1, h2, h3, h4⟩
    · cases h
    · cases h1
      rcases evEs_len (fun e r z y => by cases z; exact hn2 y) h4 with ⟨h, _⟩ | ⟨e', r, x', zs', st2', st3', h1', h2', h3', h4'⟩
      · cases h
      · cases h1'
        rw [evEs] at h4'; cases h4'
        subst h2' h2
        obtain ⟨v, w, rfl, rv1, rw_⟩ := reps2 rv
        cases x with
        | int m =>
          cases x' with
          | int k =>
            have e : (if (decide (-4611686018427387904 ≤ m) && decide (m < 4611686018427387904) && decide (-4611686018427387904 ≤ k) && decide (k < 4611686018427387904)) = true then some (upto k (k - m).toNat m) else none) = some ys := e
            split at e
            · rename_i hb
              simp only [Bool.and_eq_true, decide_eq_true_eq] at hb
              cases e
              cases (show v = .int m from rv1)
              cases (show w = .int k from rw_)
              exact ⟨m, k, rfl, ⟨by have := hb.1.1.1; omega, by have := hb.1.1.2; omega, by have := hb.1.2; omega, by have := hb.2; omega⟩, Post.ok q s1 _ rfl walk_range⟩
            · cases e
          | _ => cases e
        | _ => cases e
theorem steps_get {c : Int} : ∀ (k : Nat) (i : Int) (j : Nat), (stepsTo c k i)[j]? = if j < k then some (.int (i + (j : Nat) * c)) else none
  | 0, i, j => by simp [stepsTo]
  | k + 1, i, 0 => by simp [stepsTo]
  | k + 1, i, j + 1 => by
    have := steps_get (c := c) k (i + c) j
    simp only [stepsTo, List.getElem?_cons_succ, this]
    by_cases h : j < k
    · rw [if_pos h, if_pos (by omega)]
      have e : i + c + (j : Int) * c = i + ((j + 1 : Nat) : Int) * c := by
        rw [show ((j + 1 : Nat) : Int) = (j : Int) + 1 from rfl, Int.add_mul, Int.one_mul]; omega
      rw [e]
    · rw [if_neg h, if_neg (by omega)]
theorem steps_len {c : Int} : ∀ (k : Nat) (i : Int), (stepsTo c k i).length = k
  | 0, i => by simp [stepsTo]
  | k + 1, i => by simp [stepsTo, steps_len (c := c) k (i + c)]
theorem walk_steps {G : Pl} {μ : Mu} {H : Hp} {c lo : Int} {k : Nat} : Walk G (Itc lo c k) (stepsTo c k lo) [] μ H where
  go := fun i hi μ' H' st' e s _ => by rw [steps_len] at hi; exact hi
  yld := fun i x hx μ' H' st' v H2 e s _ y => by
    obtain ⟨rfl, rfl⟩ := y
    rw [steps_get] at hx
    split at hx
    · cases hx; exact ⟨Ext.refl s, s, rfl⟩
    · cases hx
  stop := fun i hi μ' H' st' e s _ => by rw [steps_len] at hi; exact hi
theorem rangeS_of {vs : List PV} {ys : List PV} (e : rangeS vs = some ys) : ∃ a b c, vs = [.int a, .int b, .int c] ∧ RgC a b c (Builtin.Range.rangeSize a b c).toNat ∧ ys = stepsTo c (Builtin.Range.rangeSize a b c).toNat a := by
  unfold rangeS at e
  split at e
  · split at e
    · rename_i h
      simp only [Bool.and_eq_true, decide_eq_true_eq] at h
      cases e
      exact ⟨_, _, _, rfl, ⟨h.1.1.1, h.1.1.2, h.1.2, (Int.toNat_of_nonneg h.2).symm⟩, rfl⟩
    · cases e
  · cases e
theorem rangeOf_three {x y z : PV} {r : List PV} : rangeOf (x :: y :: z :: r) = rangeS (x :: y :: z :: r) := by
  unfold rangeOf
  split <;> first | rfl | (rename_i h; cases h; done)
theorem it_range3 {p : Pos} {d : Expr} {ed : E} (K : T.Md) (C : Cok T n X W) (hg : Gl X "range") (hn : ∀ y, ea ≠ .star y) (hn2 : ∀ y, eb ≠ .star y) (hn3 : ∀ y, ed ≠ .star y) (hs : notStar a = true) (hs2 : notStar b = true) (hs3 : notStar d = true) (ha : PA X [a, b, d] (tEs T n W (.cons ea (.cons eb (.cons ed .nil))))) :
    PI X tg (.Call (.Name "range" p) [a, b, d] [] pos) (tI T n W (.range (.cons ea (.cons eb (.cons ed .nil))))) :=
  PI.imp (pi_range3 hg (by rw [C.mg]; exact K.blt _ (by decide +kernel)) ha (by rw [starEach_cons hs]) (by rw [starEach_cons hs2, starEach_cons hs3]; rfl)) fun σ H Q ⟨μ, env, st, rs, p⟩ => by
    rw [evIt] at p
    refine ⟨μ, env, st, rs, p.bind.mono fun xs μ1 st1 H1 hx e1 s1 p1 vs rv => ?_⟩
    obtain ⟨ys, e, q⟩ := Post.toR p1.bind s1
    rcases evEs_len (fun e r z y => by cases z; exact hn y) hx with ⟨h, _⟩ | ⟨e', r, x, zs, st2, st3, h1, h2, h3, h4⟩
    · cases h
    · cases h1
      rcases evEs_len (fun e r z y => by cases z; exact hn2 y) h4 with ⟨h, _⟩ | ⟨e', r, x', zs', st2', st3', h1', h2', h3', h4'⟩
      · cases h
      · cases h1'
        rcases evEs_len (fun e r z y => by cases z; exact hn3 y) h4' with ⟨h, _⟩ | ⟨e', r, x'', zs'', st2'', st3'', h1'', h2'', h3'', h4''⟩
        · cases h
        · cases h1''
          rw [evEs] at h4''; cases h4''
          subst h2'' h2' h2
          rw [rangeOf_three] at e
          obtain ⟨i, j, c, e0, g, rfl⟩ := rangeS_of e
          injection e0 with e1' e0
          injection e0 with e2' e0
          injection e0 with e3' _
          subst e1' e2' e3'
          obtain ⟨v, r1, rfl, rv1, r2⟩ := rv
          obtain ⟨w, r3, rfl, rw_, r4⟩ := r2
          obtain ⟨u, r5, rfl, ru, r6⟩ := r4
          rw [show r5 = [] from r6]
          cases (show v = .int i from rv1)
          cases (show w = .int j from rw_)
          cases (show u = .int c from ru)
          exact ⟨i, j, c, _, rfl, g, Post.ok q s1 _ rfl walk_steps⟩
theorem kk_of {G : Pl} {μ : Mu} {H : Hp} {st : Sto} {x : PV} {v : V} {src : Src} (s : RepSt G μ H st) (r : Rep G μ H x v) (e : srcOf st x = some src) : ∃ k c, v = .ref c ∧ KK G k src.1 src.2 μ H c := by
  by_cases ht : ∃ ys, x = .tup ys
  · obtain ⟨ys, rfl⟩ := ht
    cases e
    obtain ⟨c, rfl, l⟩ := tt_of r
    exact ⟨true, c, rfl, fun μ' H' _ w _ _ => l μ' H' w⟩
  · obtain ⟨c, rfl, l⟩ := ll_of s r e fun ys z => ht ⟨ys, z⟩
    exact ⟨false, c, rfl, l⟩
theorem it_enum {p tpos : Pos} {elts : List Expr} {kk : Nat} (K : T.Md) (C : Cok T n X W) (hg : Gl X "enumerate") (hs : notStar a = true) (ha : PE X a (tE T n W ea)) : PI X (.Tuple elts kk tpos) (.Call (.Name "enumerate" p) [a] [] pos) (tI T n W (.enum ea)) :=
  PI.imp (pi_enumM hg (by rw [C.mg]; exact K.blt _ (by decide +kernel)) (pa_cons ha pa_nil (starEach_cons hs _ _)) (by rw [starEach_cons hs]; rfl)) fun σ H Q ⟨μ, env, st, rs, p⟩ => by
    rw [evIt] at p
    rw [C.K]
    refine ⟨μ, env, st, rs, p.bind.mono fun x μ1 st1 H1 hx e1 s1 p1 v rv => ?_⟩
    show ∃ k a xs, [v] = [V.ref a] ∧ SqK k T.G.K H1 a xs ∧ Q (IteM k T.G.K a) H1
    cases e : srcOf st1 x with
    | none => rw [e] at p1; exact p1.elim
    | some src =>
      rw [e] at p1
      obtain ⟨k, c, rfl, l⟩ := kk_of s1 rv e
      obtain ⟨vs, q1, _⟩ := l μ1 H1 st1 Wid.refl s1 (keeps_of e)
      exact ⟨k, c, vs, rfl, q1, Post.ok p1 s1 _ (show keeps st1 src.2 = true from keeps_of e) (walk_enum l)⟩
theorem it_zip {p tpos : Pos} {elts : List Expr} {kk : Nat} (K : T.Md) (C : Cok T n X W) (hg : Gl X "zip") (hs : notStar a = true) (hs2 : notStar b = true) (ha : PE X a (tE T n W ea)) (hb : PE X b (tE T n W eb)) : PI X (.Tuple elts kk tpos) (.Call (.Name "zip" p) [a, b] [] pos) (tI T n W (.zip ea eb)) :=
  PI.imp (pi_zipM hg (by rw [C.mg]; exact K.blt _ (by decide +kernel)) (pa_cons ha (pa_cons hb pa_nil (starEach_cons hs2 _ _)) (starEach_cons hs _ _)) (starEach_cons hs _ _) (by rw [starEach_cons hs2]; rfl)) fun σ H Q ⟨μ, env, st, rs, p⟩ => by
    rw [evIt] at p
    rw [C.K]
    refine ⟨μ, env, st, rs, p.bind.mono fun x μ1 st1 H1 hx e1 s1 p1 v rv => ⟨μ1, env, st1, rs.mono e1 s1, p1.bind.mono fun y μ2 st2 H2 hy e2 s2 p2 w rw_ => ?_⟩⟩
    show ∃ k1 k2 a b xs ys, [v, w] = [V.ref a, V.ref b] ∧ SqK k1 T.G.K H2 a xs ∧ SqK k2 T.G.K H2 b ys ∧ Q (ItzM k1 k2 T.G.K a b) H2
    have rv := rv.mono e2
    split at p2
    · rename_i src src' h1 h2
      obtain ⟨k1, c, rfl, l⟩ := kk_of s2 rv h1
      obtain ⟨k2, d, rfl, l'⟩ := kk_of s2 rw_ h2
      obtain ⟨vs, q1, _⟩ := l μ2 H2 st2 Wid.refl s2 (keeps_of h1)
      obtain ⟨ws, q2, _⟩ := l' μ2 H2 st2 Wid.refl s2 (keeps_of h2)
      refine ⟨k1, k2, c, d, vs, ws, rfl, q1, q2, Post.ok p2 s2 _ ?_ (walk_zipM l l')⟩
      rw [keeps_append, keeps_of h1, keeps_of h2]; rfl
    · exact (p2 : False).elim
end
end Ev

/-! EvC: list comprehensions. -/
namespace Ev
open PySem PySem.Spec PyProof.Rows L2
/-- a clause's tests -/
def tCd (T : Tp) (n : Nat) (W : WX) (es : Es) : TT := fun σ H Q => ∃ (μ : Mu) (env : Env) (st : Sto), RS T.G μ H env st σ ∧ Post T.G W μ H σ (evCond (T.cl n) T.gs T.ar es env st) (fun b μ st H => Q b H)
theorem PTs.imp {X : Cx} {e : List Expr} {t t' : TT} (h : PTs X e t) (k : ∀ σ H Q, t' σ H Q → t σ H Q) : PTs X e t' := ⟨fun pins s σ H Q I q => h.run pins s σ H Q I (k σ H Q q)⟩
theorem wipe_in {σ : L2.St} {i : Nat} : ∀ {vs : List Nat}, i ∈ vs → (L2.wipe σ vs)[i]? = if i < σ.length then some none else none
  | [], h => by simp at h
  | v :: vs, h => by
    unfold L2.wipe
    by_cases hv : v = i
    · subst hv
      by_cases hl : v < σ.length
      · rw [if_pos hl, List.getElem?_set_self (by rw [wipe_length]; exact hl)]
      · rw [if_neg hl, List.getElem?_eq_none (by rw [List.length_set, wipe_length]; omega)]
    · rw [List.getElem?_set_ne hv]
      exact wipe_in ((List.mem_cons.mp h).resolve_left fun z => hv z.symm)
theorem wipe_out' {σ : L2.St} {i : Nat} : ∀ {vs : List Nat}, i ∉ vs → (L2.wipe σ vs)[i]? = σ[i]?
  | [], _ => rfl
  | v :: vs, h => by
    have h1 : v ≠ i := fun e => h (by rw [e]; exact List.mem_cons_self)
    have h2 : i ∉ vs := fun m => h (List.mem_cons_of_mem _ m)
    unfold L2.wipe
    rw [List.getElem?_set_ne h1]
    exact wipe_out' h2
theorem wipe_same {σ σ' : L2.St} {ns vs : List Nat} (hl : σ'.length = σ.length) (hs : SameO ns (L2.wipe σ vs) σ') (hn : ∀ j ∈ ns, j ∈ vs) : L2.wipe σ' vs = L2.wipe σ vs := by
  apply List.ext_getElem?
  intro i
  by_cases h : i ∈ vs
  · rw [wipe_in h, wipe_in h, hl]
  · rw [wipe_out' h, hs i fun z => h (hn i z)]
theorem envwipe_len (env : Env) : ∀ vs : List Nat, (wipe env vs).length = env.length
  | [] => rfl
  | v :: vs => by unfold Ev.wipe; rw [List.length_set, envwipe_len env vs]
section
variable {cl : Cl} {gs : Gv} {ar : Nat → Nat}
mutual
theorem asg_len : ∀ (t : Tg) (x : PV) (env env' : Env) (st st' : Sto), t.pure = true → asg cl gs ar t x env st = .ok env' st' → env'.length = env.length
  | .name i, x, env, env', st, st', _, h => by
    rw [asg] at h
    by_cases hl : i < env.length
    · rw [if_pos hl] at h; cases h; rw [List.length_set]
    · rw [if_neg hl] at h; cases h
  | .tup ts, x, env, env', st, st', hp, h => by
    rw [asg] at h
    obtain ⟨xs, st1, _, h⟩ := R.bind_ok h
    split at h
    · exact asgs_len ts xs env env' _ st' (by rw [Tg.pure] at hp; exact hp) h
    · cases h
  | .sub _ _, _, _, _, _, _, h, _ => by rw [Tg.pure] at h; cases h
  | .st2 _ _, _, _, _, _, _, h, _ => by rw [Tg.pure] at h; cases h
theorem asgs_len : ∀ (t : Tgs) (xs : List PV) (env env' : Env) (st st' : Sto), t.pure = true → asgs cl gs ar t xs env st = .ok env' st' → env'.length = env.length
  | .nil, [], env, env', st, st', _, h => by rw [asgs] at h; cases h; rfl
  | .nil, _ :: _, env, env', st, st', _, h => by rw [asgs.eq_3 _ _ _ _ _ _ _ (by simp) (by simp)] at h; cases h
  | .cons t r, [], env, env', st, st', _, h => by rw [asgs.eq_3 _ _ _ _ _ _ _ (by simp) (by simp)] at h; cases h
  | .cons t r, x :: xs, env, env', st, st', hp, h => by
    rw [Tgs.pure, Bool.and_eq_true] at hp
    rw [asgs] at h
    obtain ⟨env1, st1, h1, h⟩ := R.bind_ok h
    rw [asgs_len r xs env1 env' st1 st' hp.2 h, asg_len t x env env1 st st1 hp.1 h1]
end
end
theorem cLoop_ok {ks : List (Nat × List PV)} {turn : PV → Sto → R (Option PV)} {G : Pl} {W : WX} {μ : Mu} {H : Hp} {σ : L2.St} {Q : PV → Mu → Sto → Hp → Prop} {f : List PV → Sto → R PV} : ∀ {xs : List PV} {st : Sto},
    Post G W μ H σ ((cLoop ks (fun x st => (turn x st).hush) xs st).bind f) Q → ∃ vs st', cLoop ks (fun x st => (turn x st).hush) xs st = .ok vs st' := fun {xs} {st} p => by
  have key : ∀ (xs : List PV) (st : Sto), (∃ vs st', cLoop ks (fun x st => (turn x st).hush) xs st = .ok vs st') ∨ cLoop ks (fun x st => (turn x st).hush) xs st = .bad := by
    intro xs
    induction xs with
    | nil => exact fun st => .inl ⟨_, _, rfl⟩
    | cons x xs ih =>
      intro st
      unfold cLoop
      cases h : turn x st with
      | ex k a s => exact .inr rfl
      | bad => exact .inr rfl
      | ok o s =>
        show (∃ vs st', (if keeps s ks then (cLoop ks (fun x st => (turn x st).hush) xs s).bind fun r st => .ok (match o with | some v => v :: r | none => r) st else .bad) = .ok vs st') ∨ (if keeps s ks then (cLoop ks (fun x st => (turn x st).hush) xs s).bind fun r st => .ok (match o with | some v => v :: r | none => r) st else .bad) = .bad
        by_cases hk : keeps s ks = true
        · rw [if_pos hk]
          rcases ih s with ⟨vs, st', e⟩ | e
          · rw [e]; exact .inl ⟨_, _, rfl⟩
          · rw [e]; exact .inr rfl
        · rw [if_neg hk]; exact .inr rfl
  rcases key xs st with h | h
  · exact h
  · rw [h] at p; exact p.elim
theorem cLoop_cons {ks : List (Nat × List PV)} {turn : PV → Sto → R (Option PV)} {x : PV} {xs vs : List PV} {st st' : Sto} (h : cLoop ks turn (x :: xs) st = .ok vs st') :
    ∃ o st1 r, turn x st = .ok o st1 ∧ keeps st1 ks = true ∧ cLoop ks turn xs st1 = .ok r st' ∧ vs = match o with | some v => v :: r | none => r := by
  unfold cLoop at h
  obtain ⟨o, st1, h1, h⟩ := R.bind_ok h
  by_cases hk : keeps st1 ks = true
  · rw [if_pos hk] at h
    obtain ⟨r, st2, h2, h⟩ := R.bind_ok h
    cases h
    exact ⟨o, st1, r, h1, hk, h2, rfl⟩
  · rw [if_neg hk] at h; cases h
section
variable {T : Tp} {n : Nat} {X : Cx} {W : WX} {pos : Pos}
theorem cd_nil : PTs X [] (tCd T n W .nil) := PTs.imp pts_nil fun σ H Q ⟨μ, env, st, rs, p⟩ => by
  rw [evCond] at p
  exact Post.ok p rs.st
theorem cd_one {c : Expr} {ec : E} {er : Es} (h : PT X c (tT T n W ec)) : PTs X [c] (tCd T n W (.cons ec er)) := PTs.imp (pts_one h) fun σ H Q ⟨μ, env, st, rs, p⟩ => by
  rw [evCond] at p
  exact ⟨μ, env, st, rs, p⟩
/-- the state between two turns -/
structure Mid (G : Pl) (μ1 : Mu) (H1 : Hp) (D : Addr) (ks : List (Nat × List PV)) (loop : List PV → Sto → R (List PV)) (xs res : List PV) (stf : Sto) (i : Nat) (H : Hp) (μ : Mu) (st : Sto) (acc : List PV) (out : List V) : Prop where
  hst : RepSt G μ H st
  wex : Wex (μ1.hide D) (upd H1 D (.lst [])) μ H
  hold : ∀ a ∈ μ1.hid, H a = H1 a
  hks : keeps st ks = true
  at_ : H D = some (.lst out)
  hacc : Reps G μ H acc out
  rest : ∃ r, loop (xs.drop i) st = .ok r stf ∧ res = acc ++ r
theorem Mid.hidD {G : Pl} {μ1 : Mu} {H1 : Hp} {D : Addr} {ks : List (Nat × List PV)} {loop : List PV → Sto → R (List PV)} {xs res : List PV} {stf : Sto} {i : Nat} {H : Hp} {μ : Mu} {st : Sto} {acc : List PV} {out : List V}
    (M : Mid G μ1 H1 D ks loop xs res stf i H μ st acc out) : ∃ ν, μ = ⟨μ1.vis ++ ν, D :: μ1.hid⟩ ∧ ∀ a ∈ ν, H1 a = none := by
  obtain ⟨ν, e, h⟩ := M.wex.pre
  refine ⟨ν, e, fun a ha => ?_⟩
  have q := h a ha
  by_cases z : a = D
  · subst z; rw [upd_same] at q; cases q
  · rw [upd_ne z] at q; exact q
/-- the end -/
theorem Mid.fin {G : Pl} {σ : L2.St} {m : Bool} {μ1 : Mu} {H1 : Hp} {st1 : Sto} {D : Addr} {ks : List (Nat × List PV)} {loop : List PV → Sto → R (List PV)} {xs res : List PV} {stf : Sto} {i : Nat} {H : Hp} {μ : Mu} {st : Sto} {acc : List PV} {out : List V} {Q : VK}
    (M : Mid G μ1 H1 D ks loop xs res stf i H μ st acc out) (s1 : RepSt G μ1 H1 st1) (hD : H1 D = none) (hi : loop [] st = .ok [] st) (he : xs.length ≤ i) (p : Post G W μ1 H1 σ (mkL m res stf) (Val G Q)) : Q (.ref D) H := by
  obtain ⟨r, e1, e2⟩ := M.rest
  rw [List.drop_eq_nil_of_le he, hi] at e1
  cases e1
  rw [List.append_nil] at e2
  subst e2
  obtain ⟨ν, rfl, hν⟩ := M.hidD
  have fr := s1.fresh hD
  have nD : D ∉ μ1.vis ++ ν := M.hst.dis D List.mem_cons_self
  have keep : ∀ a o, H1 a = some o → a ∉ μ1.all → H a = some o := fun a o h hm => by
    have ne : a ≠ D := ne_of_none h hD
    exact M.wex.keep a o (by rw [upd_ne ne]; exact h) fun z => (Mu.mem_hide.mp z).elim ne hm
  have neD : ∀ a ∈ μ1.vis, a ≠ D := fun a ha z => fr (Mu.of_vis (by rw [← z]; exact ha))
  have kl : ∀ a ∈ μ1.vis, (∃ vs, H1 a = some (.lst vs)) → ∃ vs, H a = some (.lst vs) := fun a ha h => M.wex.kl a ha (by rw [upd_ne (neD a ha)]; exact h)
  have kd : ∀ a ∈ μ1.vis, (∃ o, H1 a = some (dO a o)) → ∃ o, H a = some (dO a o) := fun a ha h => M.wex.kd a ha (by rw [upd_ne (neD a ha)]; exact h)
  have st0 : RepSt G ((⟨μ1.vis ++ ν, μ1.hid⟩ : Mu).hide D) H stf := M.hst
  have acc0 : Reps G ((⟨μ1.vis ++ ν, μ1.hid⟩ : Mu).hide D) H res out := M.hacc
  unfold mkL lineOk at p
  by_cases hl : res.length ≤ 16777216
  · rw [if_pos (decide_eq_true hl)] at p
    cases m with
    | true =>
      rw [if_pos rfl] at p
      refine p ((⟨μ1.vis ++ ν, μ1.hid⟩ : Mu).more [D]) H ⟨⟨s1.lst, kl, kd, ⟨ν ++ [D], by simp [Mu.more, List.append_assoc], fun a ha => ?_⟩, keep⟩, M.hold⟩ (RepSt.showL (fun z => fr (Mu.of_hid z)) st0 M.at_ acc0) (.ref D) ⟨D, rfl, ?_, out, M.at_⟩
      · rcases List.mem_append.mp ha with ha | ha
        · exact hν a ha
        · rw [List.mem_singleton.mp ha]; exact hD
      · show ((μ1.vis ++ ν) ++ [D])[stf.length]? = some D
        have hl : (μ1.vis ++ ν).length = stf.length := M.hst.len
        rw [List.getElem?_append_right (by rw [hl]; omega), hl, Nat.sub_self]; rfl
    | false =>
      rw [if_neg Bool.false_ne_true] at p
      have nall : D ∉ (⟨μ1.vis ++ ν, μ1.hid⟩ : Mu).all := fun z => (List.mem_append.mp z).elim nD fun z => fr (Mu.of_hid z)
      refine p ⟨μ1.vis ++ ν, μ1.hid⟩ H ⟨⟨s1.lst, kl, kd, ⟨ν, rfl, hν⟩, keep⟩, M.hold⟩ st0.show_ (.ref D) ⟨D, out, rfl, nall, M.at_, ?_⟩
      exact Reps.show_ ⟨[], by simp⟩ (fun a h z => h (Mu.mem_hide.mpr (.inr z))) res out acc0
  · rw [if_neg (by simpa using hl)] at p; exact p.elim
/-- a turn that leaves its list as it was -/
theorem Mid.step {G : Pl} {μ1 : Mu} {H1 : Hp} {D : Addr} {ks : List (Nat × List PV)} {loop : List PV → Sto → R (List PV)} {xs res : List PV} {stf : Sto} {i : Nat} {H : Hp} {μ : Mu} {st : Sto} {acc : List PV} {out : List V}
    (M : Mid G μ1 H1 D ks loop xs res stf i H μ st acc out) {μ' : Mu} {H' : Hp} {st' : Sto} {j : Nat} (e : Ext μ H μ' H') (s : RepSt G μ' H' st') (k : keeps st' ks = true) (r : ∃ r, loop (xs.drop j) st' = .ok r stf ∧ res = acc ++ r) :
    Mid G μ1 H1 D ks loop xs res stf j H' μ' st' acc out := by
  obtain ⟨ν, rfl, hν⟩ := M.hidD
  refine ⟨s, M.wex.trans e.toWex, fun a ha => ?_, k, ?_, M.hacc.mono e, r⟩
  · rw [e.hold a (List.mem_cons_of_mem _ ha)]; exact M.hold a ha
  · rw [e.hold D List.mem_cons_self]; exact M.at_
/-- .. and one item is put to it -/
theorem Mid.put {G : Pl} {μ1 : Mu} {H1 : Hp} {st1 : Sto} {D : Addr} {ks : List (Nat × List PV)} {loop : List PV → Sto → R (List PV)} {xs res : List PV} {stf : Sto} {i : Nat} {H : Hp} {μ : Mu} {st : Sto} {acc : List PV} {out : List V} {x : PV} {y : V}
    (s1 : RepSt G μ1 H1 st1) (hD : H1 D = none) (h1 : RepSt G μ H st) (h2 : Wex (μ1.hide D) (upd H1 D (.lst [])) μ H) (h3 : ∀ a ∈ μ1.hid, H a = H1 a) (h4 : keeps st ks = true) (h5 : Reps G μ H acc out) (hx : Rep G μ H x y)
    (r : ∃ r, loop (xs.drop i) st = .ok r stf ∧ res = (acc ++ [x]) ++ r) : Mid G μ1 H1 D ks loop xs res stf i (upd H D (.lst (out ++ [y]))) μ st (acc ++ [x]) (out ++ [y]) := by
  have dh : D ∈ μ.hid := by obtain ⟨ν, rfl, _⟩ := h2.pre; exact List.mem_cons_self
  have w := Wex.grow (vs := out ++ [y]) h1 dh
  refine ⟨h1.grow dh, h2.trans w, fun a ha => ?_, h4, upd_same, (h5.wono w).append (Reps.one (hx.wono w)), r⟩
  rw [upd_ne fun z => s1.fresh hD (by rw [← z]; exact Mu.of_hid ha)]; exact h3 a ha
/-- what the evaluation promises is what the layer's rule asks -/
theorem comp_k {m : Bool} {own : List (Str × Nat)} {t : Tg} {it : Ev.It} {cond : Es} {ee : E} {σ : L2.St} {H : Hp} {Q : VK} (hp : t.pure = true) (hns : ∀ j ∈ t.ns, j ∈ own.map (·.2)) (h : tE T n W (.comp m own t it cond ee) σ H Q) :
    tLc (tI T n W it) (gP T n t) (tCd T n WF cond) (tE T n WF ee) (own.map (·.2)) σ H Q := by
  obtain ⟨μ, env, st, rs, p⟩ := h
  rw [evE] at p
  refine ⟨μ, env, st, rs, p.bind.mono fun src μ1 st1 H1 hx e1 s1 p1 J kp walk D hD => ?_⟩
  obtain ⟨xs, ks⟩ := src
  have rs1 := rs.mono e1 s1
  obtain ⟨res, stf, hloop⟩ := cLoop_ok p1
  rw [hloop] at p1
  have p1 : Post T.G W μ1 H1 σ (mkL m res stf) (Val T.G Q) := p1
  have hlen : res.length ≤ 16777216 := by
    unfold mkL lineOk at p1
    by_cases hl : res.length ≤ 16777216
    · exact hl
    · rw [if_neg (by simpa using hl)] at p1; exact p1.elim
  have wid0 : Wid μ1 H1 (μ1.hide D) (upd H1 D (.lst [])) := Wid.hide hD
  generalize hloop0 : cLoop ks _ = loop at hloop
  refine ⟨fun i k H => k = xs.length - i ∧ i ≤ xs.length ∧ ∃ μ st acc out, Mid T.G μ1 H1 D ks loop xs res stf i H μ st acc out, ⟨xs.length, by simp, Nat.zero_le _, μ1.hide D, st1, [], [], s1.hide hD, ⟨(s1.hide hD).lst, fun _ _ h => h, fun _ _ h => h, ⟨[], (Mu.more_nil _).symm, by simp⟩, fun _ _ h _ => h⟩, fun a ha => ?_, kp, upd_same, rfl, res, hloop, rfl⟩, ?_⟩
  · exact upd_ne fun z => s1.fresh hD (by rw [← z]; exact Mu.of_hid ha)
  rintro i k H2 ⟨rfl, hil, μ2, st2, acc, out, M⟩
  have wid2 : Wid μ1 H1 μ2 H2 := wid0.trans M.wex.wid
  by_cases hlt : i < xs.length
  · refine .inr ⟨walk.go i hlt μ2 H2 st2 wid2 M.hst M.hks, fun H' => i + 1 ≤ xs.length ∧ ∃ μ st acc out, Mid T.G μ1 H1 D ks loop xs res stf (i + 1) H' μ st acc out, fun H' ⟨h1, h2⟩ => ⟨xs.length - (i + 1), by omega, rfl, h1, h2⟩, fun v H3 y => ?_⟩
    obtain ⟨e3, s3, rv⟩ := walk.yld i xs[i] (List.getElem?_eq_getElem hlt) μ2 H2 st2 v H3 wid2 M.hst M.hks y
    obtain ⟨r, g1, g2⟩ := M.rest
    rw [List.drop_eq_getElem_cons hlt, ← hloop0] at g1
    obtain ⟨o, st4, r', g3, g4, g5, g6⟩ := cLoop_cons g1
    have g3 := hush_ok g3
    rw [hloop0] at g5
    obtain ⟨env', st5, g7, g3⟩ := R.bind_ok g3
    obtain ⟨b, st6, g8, g3⟩ := R.bind_ok g3
    have est : st5 = st2 := by
      rcases asg_pure (cl := T.cl n) (gs := T.gs) (ar := T.ar) t xs[i] (wipe env (own.map (·.2))) st2 hp with z | ⟨_, z⟩
      · rw [z] at g7; cases g7
      · rw [z] at g7; cases g7; rfl
    subst est
    have re3 : RepEnv T.G μ2 H3 (wipe env (own.map (·.2))) (L2.wipe σ (own.map (·.2))) := ((rs1.env.widen wid2).mono e3).wipe _
    refine ⟨μ2, _, st5, xs[i], env', ⟨s3, re3⟩, rv, g7, fun σ2 re2 so => ⟨wipe_same ?_ so hns, μ2, env', st5, ⟨s3, re2⟩, ?_⟩⟩
    · rw [← re2.len, asg_len _ _ _ _ _ _ hp g7, envwipe_len, rs1.env.len]
    rw [g8]
    intro μ4 H4 e4 s4
    have e34 := e3.trans e4
    cases b with
    | false =>
      dsimp only
      rw [if_neg Bool.false_ne_true] at g3 ⊢
      cases g3
      exact ⟨hlt, μ4, _, acc, out, M.step e34 s4 g4 ⟨r', g5, by rw [g2, g6]⟩⟩
    | true =>
      dsimp only
      rw [if_pos rfl] at g3 ⊢
      obtain ⟨w, st7, g9, g3⟩ := R.bind_ok g3
      cases g3
      refine ⟨μ4, env', st6, ⟨s4, re2.mono e4⟩, ?_⟩
      rw [g9]
      intro μ5 H5 e5 s5 y ry
      have e35 := e34.trans e5
      obtain ⟨ν, hν, _⟩ := M.hidD
      have hDh : D ∈ μ2.hid := by rw [hν]; exact List.mem_cons_self
      refine ⟨out, by rw [e35.hold D hDh]; exact M.at_, ?_, hlt, μ5, st4, acc ++ [w], out ++ [y], ?_⟩
      · rw [← M.hacc.length, sizeLine_eq]
        have : res.length = acc.length + (r'.length + 1) := by rw [g2, g6, List.length_append, List.length_cons]
        omega
      · refine Mid.put s1 hD s5 (M.wex.trans e35.toWex) (fun a ha => ?_) g4 (M.hacc.mono e35) ry ⟨r', g5, by rw [g2, g6]; simp⟩
        rw [e35.hold a (by rw [hν]; exact List.mem_cons_of_mem _ ha)]; exact M.hold a ha
  · have hge : xs.length ≤ i := by omega
    refine .inl ⟨walk.stop i hge μ2 H2 st2 wid2 M.hst M.hks, M.fin s1 hD (by rw [← hloop0]; rfl) hge p1⟩
theorem e_comp {m : Bool} {elt tg iter : Expr} {ifs : List Expr} {scope : Scope} {own : List (Str × Nat)} {t : Tg} {it : Ev.It} {cond : Es} {ee : E} (C : Cool T n X W) (hi : PI X tg iter (tI T n W it)) (ok : BlkOk X.N X.env.scope scope own)
    (hp : t.pure = true) (hns : ∀ j ∈ t.ns, j ∈ own.map (·.2))
    (hg : ∀ (s : Shared) (H : Hp) (C : Addr) (cl : List (Str × Addr)) (fp : List Addr), PG (X.blk s H scope (compEnvC scope cl C X.env) fp) tg (gP T n t))
    (ht : ∀ (s : Shared) (H : Hp) (C : Addr) (cl : List (Str × Addr)) (fp : List Addr), PTs (X.blk s H scope (compEnvC scope cl C X.env) fp) ifs (tCd T n WF cond))
    (he : ∀ (s : Shared) (H : Hp) (C : Addr) (cl : List (Str × Addr)) (fp : List Addr), PE (X.blk s H scope (compEnvC scope cl C X.env) fp) elt (tE T n WF ee)) (hs : ∀ x, foldedSetIterable iter X.env x = pure x) :
    PE X (.ListComp elt [⟨tg, iter, ifs, 0⟩] scope pos) (tE T n W (.comp m own t it cond ee)) :=
  PE.imp (pe_lc C.calm C.nd hi ok hg ht he hs) fun σ H Q h => comp_k hp hns h
end
end Ev

/-! EvS: statements. -/
namespace Ev
open PySem PySem.Spec PyProof.Rows L2
def PostF (G : Pl) (W : WX) (D : Ends) (μ : Mu) (H : Hp) : F → Prop
  | .next env st => ∀ μ' H' σ', Ext μ H μ' H' → RS G μ' H' env st σ' → D.nx σ' H'
  | .ret v st => ∀ μ' H' x, Ext μ H μ' H' → RepSt G μ' H' st → Rep G μ' H' v x → D.rt x H'
  | .brk env st => ∀ μ' H' σ', Ext μ H μ' H' → RS G μ' H' env st σ' → D.bk σ' H'
  | .cnt env st => ∀ μ' H' σ', Ext μ H μ' H' → RS G μ' H' env st σ' → D.ct σ' H'
  | .ex k a env st => ∀ μ' H' σ' cls d, Ext μ H μ' H' → RS G μ' H' env st σ' → IsEx G k a μ' H' cls d → W cls d σ' H'
  | .bad => False
theorem PostF.ext {G : Pl} {W : WX} {D : Ends} {μ μ1 : Mu} {H H1 : Hp} {r : F} (e : Ext μ H μ1 H1) (p : PostF G W D μ H r) : PostF G W D μ1 H1 r := by
  cases r with
  | next env st => exact fun μ' H' σ' e' s => p μ' H' σ' (e.trans e') s
  | ret v st => exact fun μ' H' x e' s r => p μ' H' x (e.trans e') s r
  | brk env st => exact fun μ' H' σ' e' s => p μ' H' σ' (e.trans e') s
  | cnt env st => exact fun μ' H' σ' e' s => p μ' H' σ' (e.trans e') s
  | ex k a env st => exact fun μ' H' σ' cls d e' s i => p μ' H' σ' cls d (e.trans e') s i
  | bad => exact p
theorem PostF.stmt {G : Pl} {W : WX} {D : Ends} {μ : Mu} {H : Hp} {σ : L2.St} {env : Env} {st : Sto} {α : Type} {r : R α} {f : α → Sto → F} (rs : RS G μ H env st σ) (p : PostF G W D μ H (r.stmt env f)) :
    Post G W μ H σ r (fun a μ1 st1 H1 => RS G μ1 H1 env st1 σ ∧ PostF G W D μ1 H1 (f a st1)) := by
  cases r with
  | ok a st1 => exact fun μ' H' e s => ⟨rs.mono e s, PostF.ext e p⟩
  | ex k a st1 => exact fun μ' H' cls d e s i => p μ' H' σ cls d e (rs.mono e s) i
  | bad => exact p
theorem PostF.then {G : Pl} {W : WX} {D : Ends} {μ : Mu} {H : Hp} {r : F} {f : Env → Sto → F} (p : PostF G W D μ H (r.then f)) :
    PostF G W { D with nx := fun σ H => ∃ μ env st, RS G μ H env st σ ∧ PostF G W D μ H (f env st) } μ H r := by
  cases r with
  | next env st => exact fun μ' H' σ' e s => ⟨μ', env, st, s, PostF.ext e p⟩
  | ret v st => exact p
  | brk env st => exact p
  | cnt env st => exact p
  | ex k a env st => exact p
  | bad => exact p
def tS (T : Tp) (n : Nat) (W : WX) (s : S) : TS := fun D σ H => ∃ (μ : Mu) (env : Env) (st : Sto), RS T.G μ H env st σ ∧ PostF T.G W D μ H (evS (T.cl n) T.gs T.ar s env st)
def tSs (T : Tp) (n : Nat) (W : WX) (s : Ss) : TS := fun D σ H => ∃ (μ : Mu) (env : Env) (st : Sto), RS T.G μ H env st σ ∧ PostF T.G W D μ H (evSs (T.cl n) T.gs T.ar s env st)
theorem PS.imp {X : Cx} {e : Stmt} {t t' : TS} (h : PS X e t) (k : ∀ D σ H, t' D σ H → t D σ H) : PS X e t' := ⟨fun pins s σ H D I q => h.run pins s σ H D I (k D σ H q)⟩
theorem PSs.imp {X : Cx} {e : List Stmt} {t t' : TS} (h : PSs X e t) (k : ∀ D σ H, t' D σ H → t D σ H) : PSs X e t' := ⟨fun pins s σ H D I q => h.run pins s σ H D I (k D σ H q)⟩
/-- not a comprehension -/
def noComp : Expr → Bool
  | .ListComp .. => false
  | .SetComp .. => false
  | .DictComp .. => false
  | _ => true
theorem noSwap {e : Expr} (h : noComp e = true) (t : Option Expr) (l : Nat) (env : PySem.Env) : swapsWith e t l env = pure false := by
  cases e <;> first | rfl | cases h
theorem noSwapSole {e : Expr} (h : noComp e = true) (ts : List Expr) (l : Nat) (env : PySem.Env) : swapsWithSole ts e l env = pure false := by
  match ts with
  | [] => rfl
  | [t] => exact noSwap h _ _ _
  | _ :: _ :: _ => rfl
section
variable {T : Tp} {n : Nat} {X : Cx} {W : WX} {pos : Pos} {e tg c iter : Expr} {ee ec : E} {t : Tg} {it : Ev.It} {body orelse rest : List Stmt} {sb so sr : Ss} {s0 : Stmt} {s : S}
theorem ss_nil : PSs X [] (tSs T n W .nil) := PSs.imp pss_nil fun D σ H ⟨μ, env, st, rs, p⟩ => by
  rw [evSs] at p
  exact p μ H σ (Ext.refl rs.st) rs
theorem ss_cons (h1 : PS X s0 (tS T n W s)) (h2 : PSs X rest (tSs T n W sr)) : PSs X (s0 :: rest) (tSs T n W (.cons s sr)) := PSs.imp (pss_cons h1 h2) fun D σ H ⟨μ, env, st, rs, p⟩ => by
  rw [evSs] at p
  exact ⟨μ, env, st, rs, p.then⟩
theorem s_pass : PS X (.Pass pos) (tS T n W .pass) := PS.imp ps_pass fun D σ H ⟨μ, env, st, rs, p⟩ => by
  rw [evS] at p
  exact p μ H σ (Ext.refl rs.st) rs
theorem s_hole {x : Stmt} : PS X x (tS T n W .hole) := ⟨fun pins s σ H D I ⟨μ, env, st, rs, p⟩ => by rw [evS] at p; exact p.elim⟩
theorem s_brk : PS X (.Break pos) (tS T n W .brk) := PS.imp ps_break fun D σ H ⟨μ, env, st, rs, p⟩ => by
  rw [evS] at p
  exact p μ H σ (Ext.refl rs.st) rs
theorem s_cnt : PS X (.Continue pos) (tS T n W .cnt) := PS.imp ps_continue fun D σ H ⟨μ, env, st, rs, p⟩ => by
  rw [evS] at p
  exact p μ H σ (Ext.refl rs.st) rs
theorem s_expr (he : PE X e (tE T n W ee)) (hn : noComp e = true) : PS X (.Expr e pos) (tS T n W (.expr ee)) := PS.imp (ps_expr he (noSwap hn _ _ _)) fun D σ H ⟨μ, env, st, rs, p⟩ => by
  rw [evS] at p
  exact ⟨μ, env, st, rs, (p.stmt rs).mono fun x μ1 st1 H1 _ e1 s1 ⟨rs1, q⟩ v rv => q μ1 H1 σ (Ext.refl s1) rs1⟩
theorem s_ret (he : PE X e (tE T n W ee)) : PS X (.Return (some e) pos) (tS T n W (.ret ee)) := PS.imp (ps_ret he) fun D σ H ⟨μ, env, st, rs, p⟩ => by
  rw [evS] at p
  exact ⟨μ, env, st, rs, (p.stmt rs).mono fun x μ1 st1 H1 _ e1 s1 ⟨rs1, q⟩ v rv => q μ1 H1 v (Ext.refl s1) s1 rv⟩
theorem s_retN : PS X (.Return none pos) (tS T n W .retN) := PS.imp ps_retN fun D σ H ⟨μ, env, st, rs, p⟩ => by
  rw [evS] at p
  exact p μ H .non (Ext.refl rs.st) rs.st rfl
/-- a test's value -/
theorem PostF.test {G : Pl} {D : Ends} {μ : Mu} {H : Hp} {σ : L2.St} {env : Env} {st : Sto} {r : R PV} {f : Bool → Sto → F} (rs : RS G μ H env st σ) (p : PostF G W D μ H (r.stmt env fun x st => (toR (truth st x) st).stmt env f)) :
    Post G W μ H σ (r.bind fun x st => toR (truth st x) st) (fun b μ1 st1 H1 => RS G μ1 H1 env st1 σ ∧ PostF G W D μ1 H1 (f b st1)) := by
  cases r with
  | ok a st1 =>
    have p : PostF G W D μ H ((toR (truth st1 a) st1).stmt env f) := p
    show Post G W μ H σ (toR (truth st1 a) st1) _
    cases h : truth st1 a with
    | none => rw [h] at p; exact p
    | some b => rw [h] at p; exact fun μ' H' e s => ⟨rs.mono e s, PostF.ext e p⟩
  | ex k a st1 => exact fun μ' H' cls d e s i => p μ' H' σ cls d e (rs.mono e s) i
  | bad => exact p
theorem s_if (hc : PT X c (tT T n W ec)) (ha : PSs X body (tSs T n W sb)) (hb : PSs X orelse (tSs T n W so)) : PS X (.If c body orelse pos) (tS T n W (.iff ec sb so)) := PS.imp (ps_if hc ha hb) fun D σ H ⟨μ, env, st, rs, p⟩ => by
  rw [evS] at p
  refine ⟨μ, env, st, rs, (p.test rs).mono fun b μ1 st1 H1 _ e1 s1 ⟨rs1, q⟩ => ?_⟩
  cases b with
  | true => rw [if_pos rfl] at q ⊢; exact ⟨μ1, env, st1, rs1, q⟩
  | false => rw [if_neg Bool.false_ne_true] at q ⊢; exact ⟨μ1, env, st1, rs1, q⟩
theorem s_while (C : Cok T n X W) (hc : PT X c (tT T n W ec)) (hb : PSs X body (tSs T n W sb)) : PS X (.While c body [] pos) (tS T n W (.whl ec sb)) := PS.imp (ps_while C.pass hc hb) fun D σ H ⟨μ, env, st, rs, p⟩ => by
  rw [evS] at p
  refine ⟨fun m σ H => ∃ μ env st, RS T.G μ H env st σ ∧ PostF T.G W D μ H (wLoop (fun env st => (evE (T.cl n) T.gs T.ar ec env st).bind fun x st => toR (truth st x) st) (fun env st => evSs (T.cl n) T.gs T.ar sb env st) m env st), ⟨wFuel, μ, env, st, rs, p⟩, ?_⟩
  rintro m σ H ⟨μ, env, st, rs, p⟩
  cases m with
  | zero => unfold wLoop at p; exact p.elim
  | succ m =>
    unfold wLoop at p
    refine ⟨μ, env, st, rs, ?_⟩
    cases h : ((evE (T.cl n) T.gs T.ar ec env st).bind fun x st => toR (truth st x) st) with
    | bad => rw [h] at p; exact p
    | ex k a st1 => rw [h] at p; exact fun μ' H' cls d e s i => p μ' H' σ cls d e (rs.mono e s) i
    | ok b st1 =>
      rw [h] at p
      intro μ1 H1 e1 s1
      have rs1 := rs.mono e1 s1
      cases b with
      | false => exact p μ1 H1 σ e1 rs1
      | true =>
        dsimp only
        rw [if_pos rfl]
        have p := PostF.ext e1 p
        refine ⟨fun σ H => ∃ μ env st, RS T.G μ H env st σ ∧ PostF T.G W D μ H (wLoop (fun env st => (evE (T.cl n) T.gs T.ar ec env st).bind fun x st => toR (truth st x) st) (fun env st => evSs (T.cl n) T.gs T.ar sb env st) m env st), fun σ' H' q => ⟨m, Nat.lt_succ_self m, q⟩, μ1, env, st1, rs1, ?_⟩
        dsimp only at p
        cases h2 : evSs (T.cl n) T.gs T.ar sb env st1 with
        | next env2 st2 => rw [h2] at p; exact fun μ' H' σ' e s => ⟨μ', env2, st2, s, PostF.ext e p⟩
        | cnt env2 st2 => rw [h2] at p; exact fun μ' H' σ' e s => ⟨μ', env2, st2, s, PostF.ext e p⟩
        | brk env2 st2 => rw [h2] at p; exact p
        | ret v st2 => rw [h2] at p; exact p
        | ex k a env2 st2 => rw [h2] at p; exact p
        | bad => rw [h2] at p; exact p
theorem s_for (C : Cool T n X W) (hi : PI X tg iter (tI T n W it)) (hg : PG X tg (gQ T n t)) (hb : PSs X body (tSs T n W sb)) (hs : ∀ x, foldedSetIterable iter X.env x = pure x) : PS X (.For tg iter body [] pos) (tS T n W (.for_ t it sb)) :=
  PS.imp (ps_for C.pass C.calm hi hg hb hs) fun D σ H ⟨μ, env, st, rs, p⟩ => by
    rw [evS] at p
    refine ⟨μ, env, st, rs, (p.stmt rs).mono fun src μ1 st1 H1 _ e1 s1 ⟨rs1, p1⟩ J kp walk => ?_⟩
    obtain ⟨xs, ks⟩ := src
    dsimp only at p1 kp walk
    refine ⟨fun i m σ H => m = xs.length - i ∧ i ≤ xs.length ∧ ∃ μ env st, RS T.G μ H env st σ ∧ Ext μ1 H1 μ H ∧ keeps st ks = true ∧ PostF T.G W D μ H (fLoop ks (fun x env st => asg (T.cl n) T.gs T.ar t x env st) (fun env st => evSs (T.cl n) T.gs T.ar sb env st) (xs.drop i) env st),
      ⟨xs.length, by simp, Nat.zero_le _, μ1, env, st1, rs1, Ext.refl s1, kp, p1⟩, ?_⟩
    rintro i m σ2 H2 ⟨rfl, hi, μ2, env2, st2, rs2, e2, k2, p2⟩
    by_cases hlt : i < xs.length
    · rw [List.drop_eq_getElem_cons hlt] at p2
      unfold fLoop at p2
      refine .inr ⟨walk.go i hlt μ2 H2 st2 e2.wid rs2.st k2, fun σ H => i + 1 ≤ xs.length ∧ ∃ μ env st, RS T.G μ H env st σ ∧ Ext μ1 H1 μ H ∧ keeps st ks = true ∧ PostF T.G W D μ H (fLoop ks (fun x env st => asg (T.cl n) T.gs T.ar t x env st) (fun env st => evSs (T.cl n) T.gs T.ar sb env st) (xs.drop (i + 1)) env st),
        fun σ' H' ⟨q1, q2⟩ => ⟨xs.length - (i + 1), by omega, rfl, q1, q2⟩, fun v H3 y => ?_⟩
      obtain ⟨e3, s3, rv⟩ := walk.yld i xs[i] (List.getElem?_eq_getElem hlt) μ2 H2 st2 v H3 e2.wid rs2.st k2 y
      have rs3 := rs2.mono e3 s3
      have p3 := PostF.ext e3 p2
      have e13 := e2.trans e3
      cases h : asg (T.cl n) T.gs T.ar t xs[i] env2 st2 with
      | bad => rw [h] at p3; exact p3.elim
      | ex k a st4 => exact (asg_nex t xs[i] env2 st2 h).elim
      | ok env4 st4 =>
        rw [h] at p3
        refine ⟨μ2, env2, st2, xs[i], env4, st4, rs3, rv, h, fun μ4 H4 σ4 e4 rs4 => ⟨μ4, env4, st4, rs4, ?_⟩⟩
        have p4 := PostF.ext e4 p3
        have e14 := e13.trans e4
        dsimp only at p4
        cases h2 : evSs (T.cl n) T.gs T.ar sb env4 st4 with
        | next env5 st5 =>
          rw [h2] at p4
          dsimp only at p4
          intro μ5 H5 σ5 e5 rs5
          by_cases hk : keeps st5 ks = true
          · rw [if_pos hk] at p4
            exact ⟨hlt, μ5, env5, st5, rs5, e14.trans e5, hk, PostF.ext e5 p4⟩
          · rw [if_neg hk] at p4; exact p4.elim
        | cnt env5 st5 =>
          rw [h2] at p4
          dsimp only at p4
          intro μ5 H5 σ5 e5 rs5
          by_cases hk : keeps st5 ks = true
          · rw [if_pos hk] at p4
            exact ⟨hlt, μ5, env5, st5, rs5, e14.trans e5, hk, PostF.ext e5 p4⟩
          · rw [if_neg hk] at p4; exact p4.elim
        | brk env5 st5 => rw [h2] at p4; exact p4
        | ret v st5 => rw [h2] at p4; exact p4
        | ex k a env5 st5 => rw [h2] at p4; exact p4
        | bad => rw [h2] at p4; exact p4
    · have hge : xs.length ≤ i := by omega
      refine .inl ⟨walk.stop i hge μ2 H2 st2 e2.wid rs2.st k2, ?_⟩
      rw [List.drop_eq_nil_of_le hge] at p2
      unfold fLoop at p2
      exact p2 μ2 H2 σ2 (Ext.refl rs2.st) rs2
/-! ### stores -/
theorem set_k {D : Ends} {σ : L2.St} {H : Hp} {μ : Mu} {env : Env} {st : Sto} (rs : RS T.G μ H env st σ) (p : PostF T.G W D μ H (evS (T.cl n) T.gs T.ar (.set t ee) env st)) : tAsg (tE T n W ee) (gQ T n t) D σ H := by
  rw [evS] at p
  refine ⟨μ, env, st, rs, (p.stmt rs).mono fun x μ1 st1 H1 _ e1 s1 ⟨rs1, q⟩ v rv => ?_⟩
  cases h : asg (T.cl n) T.gs T.ar t x env st1 with
  | bad => rw [h] at q; exact q.elim
  | ex k a st4 => exact (asg_nex t x env st1 h).elim
  | ok env4 st4 =>
    rw [h] at q
    exact ⟨μ1, env, st1, x, env4, st4, rs1, rv, h, fun μ' H' σ' e' rs' => q μ' H' σ' e' rs'⟩
theorem s_set (he : PE X e (tE T n W ee)) (hg : PG X tg (gQ T n t)) (hs : swapsWithSole [tg] e pos.line X.env = pure false) (hw : swappedStores [tg] e X.env = pure none) (hn : notStar tg = true) : PS X (.Assign [tg] e pos) (tS T n W (.set t ee)) :=
  PS.imp (ps_asg he hg hs hw (by rw [assignEach_cons hn]; rfl)) fun D σ H ⟨μ, env, st, rs, p⟩ => set_k rs p
/-- two names at once -/
theorem s_par {i j : Nat} {x y : Str} {a b : Expr} {es : Es} {px py pt : Pos} {kt k2 : Nat} {pt2 : Pos} (C : Cool T n X W) (hi : X.N[i]? = some x) (hj : X.N[j]? = some y) (hij : i ≠ j) (hx : X.env.scope.names.lookup x = some .local) (hy : X.env.scope.names.lookup y = some .local)
    (ha : PA X [a, b] (tEs T n W es)) (hw : swappedStores [.Tuple [.Name x px, .Name y py] kt pt] (.Tuple [a, b] k2 pt2) X.env = pure (some [x, y])) :
    PS X (.Assign [.Tuple [.Name x px, .Name y py] kt pt] (.Tuple [a, b] k2 pt2) pos) (tS T n W (.set (.tup (.cons (.name i) (.cons (.name j) .nil))) (.tup es))) :=
  PS.imp (ps_par C.calm C.nd hi hj hij hx hy ha hw (noSwapSole rfl _ _ _)) fun D σ H ⟨μ, env, st, rs, p⟩ => by
    rw [evS, evE] at p
    have q := (p.stmt rs).bind
    refine ⟨μ, env, st, rs, q.mono fun xs μ1 st1 H1 _ e1 s1 q vs rv => ?_⟩
    unfold mkT lineOk at q
    by_cases hl : xs.length ≤ 16777216
    · rw [if_pos (decide_eq_true hl)] at q
      obtain ⟨rs1, q⟩ := Post.ok q s1
      match xs, rv with
      | [x1, y1], rv =>
        obtain ⟨v, w, rfl, r1, r2⟩ := reps2 rv
        refine ⟨v, w, rfl, ?_⟩
        rw [asg] at q
        simp only [items, toR, R.bind, Tgs.len, List.length_cons, List.length_nil, if_pos, asgs, asg] at q
        by_cases h1 : i < env.length
        · rw [if_pos h1] at q
          dsimp only at q
          by_cases h2 : j < (env.set i (some x1)).length
          · rw [if_pos h2] at q
            exact q μ1 H1 _ (Ext.refl s1) ⟨s1, (rs1.env.set r1 i).set r2 j⟩
          · rw [if_neg h2] at q; exact q.elim
        · rw [if_neg h1] at q; exact q.elim
      | [], _ => rw [asg] at q; simp [items, toR, R.bind, Tgs.len, R.stmt] at q; exact q.elim
      | [_], _ => rw [asg] at q; simp [items, toR, R.bind, Tgs.len, R.stmt] at q; exact q.elim
      | _ :: _ :: _ :: _, _ => rw [asg] at q; simp [items, toR, R.bind, Tgs.len, R.stmt] at q; exact q.elim
    · rw [if_neg (by simpa using hl)] at q; exact q.elim
theorem s_par3 {i j l : Nat} {x y z : Str} {a b c : Expr} {es : Es} {px py pz pt : Pos} {kt k2 : Nat} {pt2 : Pos} (C : Cool T n X W) (hi : X.N[i]? = some x) (hj : X.N[j]? = some y) (hl : X.N[l]? = some z) (hij : i ≠ j) (hil : i ≠ l) (hjl : j ≠ l)
    (hx : X.env.scope.names.lookup x = some .local) (hy : X.env.scope.names.lookup y = some .local) (hz : X.env.scope.names.lookup z = some .local)
    (ha : PA X [a, b, c] (tEs T n W es)) (hw : swappedStores [.Tuple [.Name x px, .Name y py, .Name z pz] kt pt] (.Tuple [a, b, c] k2 pt2) X.env = pure (some [x, y, z])) :
    PS X (.Assign [.Tuple [.Name x px, .Name y py, .Name z pz] kt pt] (.Tuple [a, b, c] k2 pt2) pos) (tS T n W (.set (.tup (.cons (.name i) (.cons (.name j) (.cons (.name l) .nil)))) (.tup es))) :=
  PS.imp (ps_par3 C.calm C.nd hi hj hl hij hil hjl hx hy hz ha hw (noSwapSole rfl _ _ _)) fun D σ H ⟨μ, env, st, rs, p⟩ => by
    rw [evS, evE] at p
    have q := (p.stmt rs).bind
    refine ⟨μ, env, st, rs, q.mono fun xs μ1 st1 H1 _ e1 s1 q vs rv => ?_⟩
    unfold mkT lineOk at q
    by_cases hl : xs.length ≤ 16777216
    · rw [if_pos (decide_eq_true hl)] at q
      obtain ⟨rs1, q⟩ := Post.ok q s1
      match xs, rv with
      | [x1, y1, z1], ⟨u, r, e1, r1, r'⟩ =>
        obtain ⟨v, w, rfl, r2, r3⟩ := reps2 r'
        subst e1
        refine ⟨u, v, w, rfl, ?_⟩
        rw [asg] at q
        simp only [items, toR, R.bind, Tgs.len, List.length_cons, List.length_nil, if_pos, asgs, asg] at q
        by_cases h1 : i < env.length
        · rw [if_pos h1] at q
          dsimp only at q
          by_cases h2 : j < (env.set i (some x1)).length
          · rw [if_pos h2] at q
            dsimp only at q
            by_cases h3 : l < ((env.set i (some x1)).set j (some y1)).length
            · rw [if_pos h3] at q
              exact q μ1 H1 _ (Ext.refl s1) ⟨s1, ((rs1.env.set r1 i).set r2 j).set r3 l⟩
            · rw [if_neg h3] at q; exact q.elim
          · rw [if_neg h2] at q; exact q.elim
        · rw [if_neg h1] at q; exact q.elim
      | [], _ => rw [asg] at q; simp [items, toR, R.bind, Tgs.len, R.stmt] at q; exact q.elim
      | [_], _ => rw [asg] at q; simp [items, toR, R.bind, Tgs.len, R.stmt] at q; exact q.elim
      | [_, _], _ => rw [asg] at q; simp [items, toR, R.bind, Tgs.len, R.stmt] at q; exact q.elim
      | _ :: _ :: _ :: _ :: _, _ => rw [asg] at q; simp [items, toR, R.bind, Tgs.len, R.stmt] at q; exact q.elim
    · rw [if_neg (by simpa using hl)] at q; exact q.elim
/-- name = [..] on one line -/
theorem s_setLc {m : Bool} {i : Nat} {y : Str} {py : Pos} {elt : Expr} {ifs : List Expr} {scope : Scope} {own : List (Str × Nat)} {spos : Pos} {cond : Es} {ee : E} (C : Cool T n X W) (hy : X.N[i]? = some y) (hyl : X.env.scope.names.lookup y = some .local)
    (hsw : swapsWith (.ListComp elt [⟨tg, iter, ifs, 0⟩] scope pos) (some (.Name y py)) spos.line X.env = pure true) (hi : PI X tg iter (tI T n W it)) (ok : BlkOk X.N X.env.scope scope own)
    (hp : t.pure = true) (hns : ∀ j ∈ t.ns, j ∈ own.map (·.2))
    (hg : ∀ (s : Shared) (H : Hp) (C : Addr) (cl : List (Str × Addr)) (fp : List Addr), PG (X.blk s H scope (compEnvC scope cl C X.env) fp) tg (gP T n t))
    (ht : ∀ (s : Shared) (H : Hp) (C : Addr) (cl : List (Str × Addr)) (fp : List Addr), PTs (X.blk s H scope (compEnvC scope cl C X.env) fp) ifs (tCd T n WF cond))
    (he : ∀ (s : Shared) (H : Hp) (C : Addr) (cl : List (Str × Addr)) (fp : List Addr), PE (X.blk s H scope (compEnvC scope cl C X.env) fp) elt (tE T n WF ee)) (hs : ∀ x, foldedSetIterable iter X.env x = pure x) :
    PS X (.Assign [.Name y py] (.ListComp elt [⟨tg, iter, ifs, 0⟩] scope pos) spos) (tS T n W (.set (.name i) (.comp m own t it cond ee))) :=
  PS.imp (ps_setLc C.calm C.nd hy hyl hsw hi ok hg ht he hs) fun D σ H ⟨μ, env, st, rs, p⟩ => by
    obtain ⟨μ, env, st, rs, p⟩ := set_k rs p
    refine comp_k hp hns ⟨μ, env, st, rs, p.mono fun x μ1 st1 H1 _ e1 s1 q v rv => ?_⟩
    obtain ⟨μ2, env2, st2, x2, env', st', rs2, rx2, h2, q2⟩ := q v rv
    rw [asg] at h2
    by_cases hl : i < env2.length
    · rw [if_pos hl] at h2; cases h2
      exact q2 μ2 H1 _ (Ext.refl rs2.st) ⟨rs2.st, rs2.env.set rx2 i⟩
    · rw [if_neg hl] at h2; cases h2
theorem ipmul_never : PIp X .Mult (fun _ _ _ _ => False) := fun _ _ _ _ _ _ _ _ _ _ _ _ h => h.elim
theorem ip_mulG : PIp X .Mult (rI (fun i j => mulOk i j = true) fun i j => .int (i * j)) := opI fun _ _ _ _ _ _ _ hc q => imul_int q (mulOk_ok hc)
theorem s_aug {i : Nat} {x : Str} {op : Op} {pos' : Pos} (C : Cok T n X W) (hi : X.N[i]? = some x) (hx : Loc X.env.scope x) (hf : X.fn x = true ∨ X.env.scope.names.lookup x = some .local) (he : PE X e (tE T n W ee)) (hop : op = .add ∨ op = .sub ∨ op = .mul) : PS X (.AugAssign (.Name x pos') (bop op) e pos) (tS T n W (.aug i op ee)) := by
  have key : ∀ (f : Int → Int → Int), (∀ st a b, binop false st op (.int a) (.int b) = .ok (.int (f a b)) st) → PIp X (bop op) (ipI f) → PS X (.AugAssign (.Name x pos') (bop op) e pos) (tS T n W (.aug i op ee)) := fun f hf' hip =>
    PS.imp (ps_aug C.nd hi hx he hip hf) fun D σ H ⟨μ, env, st, rs, p⟩ => by
      rw [evS] at p
      cases h : env[i]? with
      | none => rw [h] at p; exact p.elim
      | some o =>
        cases o with
        | none => rw [h] at p; exact p.elim
        | some x1 =>
          rw [h] at p
          obtain ⟨v, h1, h2⟩ := rs.env.at_ i x1 h
          refine ⟨v, h1, μ, env, st, rs, (p.stmt rs).mono fun y μ1 st1 H1 hy0 e1 s1 qq w rw_ => ?_⟩
          obtain ⟨a, b, rfl, rfl⟩ : ∃ a b, x1 = .int a ∧ y = .int b := by
            have q := qq.2
            cases x1 <;> first | exact q.elim | skip
            cases y <;> first | exact q.elim | exact ⟨_, _, rfl, rfl⟩
          obtain ⟨rs1, q⟩ := qq
          cases (show v = .int a from h2)
          cases (show w = .int b from rw_)
          refine ⟨a, b, rfl, rfl, ?_⟩
          dsimp only at q
          rw [hf'] at q
          exact q μ1 H1 _ (Ext.refl s1) ⟨s1, rs1.env.set (x := .int (f a b)) rfl i⟩
  rcases hop with rfl | rfl | rfl
  · exact key (fun a b => a + b) (fun _ _ _ => rfl) ip_add
  · exact key (fun a b => a - b) (fun _ _ _ => rfl) ip_sub
  · refine PS.imp (ps_aug C.nd hi hx he ip_mulG hf) fun D σ H ⟨μ, env, st, rs, p⟩ => ?_
    rw [evS] at p
    cases h : env[i]? with
    | none => rw [h] at p; exact p.elim
    | some o =>
      cases o with
      | none => rw [h] at p; exact p.elim
      | some x1 =>
        rw [h] at p
        obtain ⟨v, h1, h2⟩ := rs.env.at_ i x1 h
        refine ⟨v, h1, μ, env, st, rs, (p.stmt rs).mono fun y μ1 st1 H1 hy0 e1 s1 qq w rw_ => ?_⟩
        obtain ⟨a, b, rfl, rfl⟩ : ∃ a b, x1 = .int a ∧ y = .int b := by
          have q := qq.2
          cases x1 <;> first | exact q.elim | skip
          cases y <;> first | exact q.elim | exact ⟨_, _, rfl, rfl⟩
        obtain ⟨rs1, q⟩ := qq
        cases (show v = .int a from h2)
        cases (show w = .int b from rw_)
        by_cases c : mulOk a b = true
        · refine ⟨a, b, rfl, rfl, c, ?_⟩
          have hb : binop false st1 .mul (.int a) (.int b) = .ok (.int (a * b)) st1 := if_pos c
          dsimp only at q
          rw [hb] at q
          exact q μ1 H1 _ (Ext.refl s1) ⟨s1, rs1.env.set (x := .int (a * b)) rfl i⟩
        · have hb : binop false st1 .mul (.int a) (.int b) = .bad := if_neg c
          dsimp only at q
          rw [hb] at q
          exact q.elim
/-- X() -/
theorem pmk0 {C : Addr} {bmB : List Value} {B newId initId : String} {x : Str} {p : Pos} (F : ExcBaseFacts B newId initId bmB) (q : PySem.W.excIn X.K C bmB newId = true) (gC : X.mg x = some (.ref C)) (kC : PySem.W.keepIn X.K (.ref C) = true) (r : Raises X (.ref C)) (hg : Gl X x)
    (hdb : (x == ("__debug__" : Str)) = false) : PMk X (.Call (.Name x p) [] [] pos) (fun _ H Q => Q (.ref C) none H) := by
  intro pins s σ H Q I h
  refine wpAny_Call_Name_kw (ld_glob I hg gC ?_ hdb)
  refine PySem.W.callWith_K0 I.kIn kC ?_
  obtain ⟨bm, N, nm, qn, bs, hdct, sn, sub, ab, col, dd, k0, k1, k2, k3, k5, mN, hC, hN, hni, T⟩ := exc_obj I.kIn q
  refine wpAny_call_exc_subT F T hC hN hni (fun h' e hm => ?_) (by show 0 ≤ sizeLine; exact Nat.zero_le _)
  exact mk_of I hm r h (I.hok.gone hm.new)
theorem s_raise {k : Nat} {x : Str} {p p2 : Pos} (K : T.Md) (C : Cool T n X W) (hk : T.cs[k]? = some x) (hg : Gl X x) (hdb : (x == ("__debug__" : Str)) = false) : PS X (.Raise (some (.Call (.Name x p) [] [] p2)) none pos) (tS T n W (.raise k)) := by
  obtain ⟨B, newId, initId, bmB, F, q⟩ := (K.ex k x hk).ex
  have E := K.ex k x hk
  refine PS.imp (ps_raise C.calm C.takes (pmk0 (C := T.G.ca k) F (by rw [C.K]; exact q) (by rw [C.mg]; exact E.mg) (by rw [C.K]; exact E.kp) (raises_own (by rw [C.K]; exact E.r1) (by rw [C.K]; exact E.r2)) hg hdb)) fun D σ H ⟨μ, env, st, rs, p⟩ => ?_
  rw [evS] at p
  exact p μ H σ _ _ (Ext.refl rs.st) rs ⟨rfl, rfl, rfl, by rw [K.nc]; exact (List.getElem?_eq_some_iff.mp hk).1⟩
end
end Ev

/-! EvT: try with several clauses, named or not. -/
namespace Ev
open PySem PySem.Spec PyProof.Rows L2
abbrev SuT : Type := Addr → Value → Option Addr → TS
/-- the ends of a suite whose name goes -/
def Ends.gone (D : Ends) (o : Option Nat) : Ends := match o with
  | none => D
  | some i => { nx := fun σ H => D.nx (σ.set i none) H, rt := D.rt, bk := fun σ H => D.bk (σ.set i none) H, ct := fun σ H => D.ct (σ.set i none) H }
def named (σ : L2.St) (o : Option Nat) (a : Addr) : L2.St := match o with
  | none => σ
  | some i => σ.set i (some (.ref a))
/-- what the clauses wish -/
def wG (K : PySem.W.Frag) (Wout : WX) (D : Ends) : List (Value × Option Nat × SuT) → WX
  | [] => Wout
  | (c, o, ts) :: r => fun cls d σ H => ∃ b, PySem.W.exmOne K cls c = some b ∧ (b = true → ∀ a, H a = none → ts a cls d (Ends.gone D o) (named σ o a) H) ∧ (b = false → wG K Wout D r cls d σ H)
inductive HdsG (X : Cx) : List ExceptHandler → List (Value × Option Nat × SuT) → Prop
  | nil : HdsG X [] []
  | cons {x : Str} {c : Value} {o : Option Nat} {nm : Option Str} {ts : SuT} {b₀ : Stmt} {suite : List Stmt} {np pos' : Pos} {hds : List ExceptHandler} {l : List (Value × Option Nat × SuT)} (hc : Names X x c)
      (hn : (o = none ∧ nm = none) ∨ ∃ i n, o = some i ∧ nm = some n ∧ X.N[i]? = some n ∧ X.env.kindOf n = some .local)
      (hsu : ∀ (a : Addr) (oe : Obj) (cls : Value) (d : Option Addr) (pn : List (Addr × Obj)), Zc cls d oe → (∃ vs, oe.data = .fields vs) → PSs (X.suite a ((a, oe) :: pn)) (b₀ :: suite) (ts a cls d)) (r : HdsG X hds l) :
      HdsG X (.ExceptHandler (some (.Name x np)) nm (b₀ :: suite) pos' :: hds) ((c, o, ts) :: l)
/-- an error of the body, landed in the frame that looks at its clauses -/
structure Fallen (X : Cx) (pins : List (Addr × Obj)) (σ : L2.St) (H : Hp) (cls : Value) (d : Option Addr) (e : Addr) (s : Shared) : Prop where
  from_ : ∃ (ground : Heap) (s0 : Shared), L2.Inv X pins σ H s0 ∧ (∀ b o, s0.heap.get? b = some o → b ∉ frs X.stack → ground.get? b = some o) ∧ s0.heap.UpToSlots s.heap ∧ HandSPX.FlyingZ ground (X.env :: X.outer) e (Zc cls d) s.heap ∧ s.os = s0.os ∧ AllBare s.gens
  new : H e = none
section
variable {X : Cx} {pins : List (Addr × Obj)} {σ : L2.St} {H : Hp} {cls : Value} {d : Option Addr} {e : Addr} {s : Shared}
theorem Fallen.inv (F : Fallen X pins σ H cls d e s) : L2.Inv X pins σ H s := by
  obtain ⟨ground, s0, J, keep, same, fly, sameOs, bare⟩ := F.from_
  exact J.landed keep fly.1 same sameOs bare
theorem Fallen.obj (F : Fallen X pins σ H cls d e s) : ∃ o vs, s.heap.get? e = some o ∧ Zc cls d o ∧ o.data = .fields vs := by
  obtain ⟨_, _, _, _, _, fly, _⟩ := F.from_
  exact fly.there
/-- it is no frame -/
theorem Fallen.apart (F : Fallen X pins σ H cls d e s) : e ∉ frs (X.env :: X.outer) := by
  obtain ⟨_, _, _, _, _, fly, _⟩ := F.from_
  obtain ⟨o, vs, look, _, data⟩ := fly.there
  intro among
  obtain ⟨_, o', look', other⟩ := fly.2.2.1.mem among
  rw [look] at look'
  cases look'
  exact other vs data
theorem Fallen.suite (F : Fallen X pins σ H cls d e s) (own : X.env.frame = some X.env.locals) : ∃ o, Zc cls d o ∧ (∃ vs, o.data = .fields vs) ∧ L2.Inv (X.suite e ((e, o) :: (X.pn ++ pins))) [] σ H s := by
  obtain ⟨o, vs, look, z, data⟩ := F.obj
  refine ⟨o, z, ⟨vs, data⟩, F.inv.suite look data F.new (fun same => F.apart ?_) fun among => F.apart ?_⟩
  · rw [same]
    exact List.mem_filterMap.mpr ⟨_, List.mem_cons_self, own⟩
  · obtain ⟨f, hf, hl⟩ := List.mem_filterMap.mp among
    exact List.mem_filterMap.mpr ⟨f, List.mem_cons_of_mem _ hf, hl⟩
/-- its flight is set anew -/
theorem Fallen.again {E : Value → Shared → Prop} {Q : Unit → Shared → Prop} (F : Fallen X pins σ H cls d e s) (k : ∀ s', Fallen X pins σ H cls d e s' → Q () s') : wpAny (model X.prog X.w) (X.A.mark (some (.ref e))) (setFlight (.ref e) none) Q E s := by
  obtain ⟨ground, s0, J, keep, same, fly, sameOs, bare⟩ := F.from_
  exact HandSPX.lands_againZ fly fun h fly' up => k _ ⟨⟨ground, s0, J, keep, same.trans up, fly', sameOs, bare⟩, F.new⟩
/-- no clause is its: it flies on -/
theorem Fallen.on {Wout : WX} {D : Ends} (F : Fallen X pins σ H cls d e s) (stk : X.stack = X.env :: X.outer) (own : X.env.frame = some X.env.locals) (tk : Takes X Wout) (w : Wout cls d σ H) : wpAny (model X.prog X.w) X.A (handleBy (.ref e) X.env []) (SP X pins D) X.xe s := by
  obtain ⟨ground, s0, J, keep, same, fly, sameOs, bare⟩ := F.from_
  apply wpAny_handleBy_nil
  have fly' := fly
  obtain ⟨_, _, _, o, vs, trace, _, _, look, _, data, first, _⟩ := fly'
  have last : wpAny (model X.prog X.w) X.A (do setFlight (.ref e) X.env.frame; throw (.ref e) : Sem Flow) (SP X pins D) X.xe s := by
    rw [own]
    refine wpAny_bind (HandSPX.setFlight_upZ fly fun h held up => wpAny_throw (tk _ _ ⟨e, ground, s0, pins, σ, H, cls, d, rfl, J, keep, same.trans up, ?_, F.new, sameOs, bare, w⟩))
    rw [stk]; exact .inr (.inr held)
  unfold PySem.passOn
  refine wpAny_bind (wpAny_field look data first ?_)
  have there : ¬ ((Value.ref trace == Value.none) = true) := by simp
  rw [if_neg there]
  first
    | exact wpAny_bind (wpAny_pure last)
    | exact last
/-- the clauses, one behind another -/
theorem Fallen.clauses {Wout : WX} {D : Ends} (stk : X.stack = X.env :: X.outer) (own : X.env.frame = some X.env.locals) (nd : X.N.Nodup) (tk : Takes X Wout) (F : Fallen X pins σ H cls d e s) :
    ∀ {hds : List ExceptHandler} {l : List (Value × Option Nat × SuT)}, HdsG X hds l → wG X.K Wout D l cls d σ H → wpAny (model X.prog X.w) X.A (handleBy (.ref e) X.env hds) (SP X pins D) X.xe s := by
  intro hds l hk
  induction hk with
  | nil => exact fun w => F.on stk own tk w
  | @cons x c o nm ts b₀ suite np pos' hds2 l2 named_ slot does rest ih =>
    intro w
    obtain ⟨fits, asked, yes, no⟩ := w
    have inv := F.inv
    obtain ⟨ob, z, data, insuite⟩ := F.suite own
    have cls_ : PySem.W.Looks (model X.prog X.w) s.heap (typeOf (.ref e)) cls := by
      obtain ⟨o2, vs2, look2, z2, _⟩ := F.obj
      intro A Q E s' keeps q
      exact wpAny_typeOf_ref (keeps _ _ look2) (by rw [z2.1]; exact q)
    apply wpAny_handleBy_cons (hnb := by intro q; cases q)
    apply codeAny_handlers_test
    have reads : ∀ {Q : Value → Shared → Prop} {E : Value → Shared → Prop}, Q c s → wpAny (model X.prog X.w) (X.A.mark (some (.ref e))) (eval (.Name x np) X.env) Q E s := by
      intro Q E q
      obtain ⟨glob, nod, bound | ⟨unbound, boot, noname⟩⟩ := named_
      · exact ld_glob insuite glob bound q nod
      · exact ld_blt insuite glob unbound boot q noname nod
    refine reads ((PySem.W.exm_one (M := model X.prog X.w) inv.kIn cls_ asked).here ?_)
    cases fits with
    | false => exact ih (no rfl)
    | true =>
      have wish := yes rfl e F.new
      rcases slot with ⟨rfl, rfl⟩ | ⟨i, n, rfl, rfl, place, loc⟩
      · apply codeAny_handlers_suite
        refine F.again fun s2 F2 => ?_
        obtain ⟨ob2, z2, data2, in2⟩ := F2.suite own
        refine wpAny_mono ((does e ob2 cls d (X.pn ++ pins) z2 data2).run [] _ _ H _ in2 wish) (fun f s3 out => ?_) (fun _ _ none_ => none_.elim)
        cases f <;> first
          | (obtain ⟨τ, H3, in3, q⟩ := out; exact ⟨τ, H3, in3.unsuite inv.ok, q⟩)
          | (obtain ⟨v, τ, H3, in3, r, q⟩ := out; exact ⟨v, τ, H3, in3.unsuite inv.ok, r, q⟩)
      · apply codeAny_handlers_suite_as
        refine F.again fun s2 F2 => ?_
        obtain ⟨ob2, z2, data2, in2⟩ := F2.suite own
        refine store_ok (X := X.suite e ((e, ob2) :: (X.pn ++ pins))) (v := .ref e) in2 nd place (.inl loc) rfl (fun s3 in3 => ?_) (.inr loc)
        refine wpAny_mono ((does e ob2 cls d (X.pn ++ pins) z2 data2).run [] s3 _ H _ in3 wish) (fun f s4 out => ?_) (fun _ _ none_ => none_.elim)
        cases f <;> first
          | (obtain ⟨τ, H4, in4, q⟩ := out; exact gone_ok (in4.unsuite inv.ok) nd place loc fun s5 in5 => ⟨_, _, in5, q⟩)
          | (obtain ⟨v, τ, H4, in4, r, q⟩ := out; exact gone_ok (in4.unsuite inv.ok) nd place loc fun s5 in5 => ⟨_, _, _, in5, r, q⟩)
end
section
variable {X : Cx} {body : List Stmt} {h₀ : ExceptHandler} {hds : List ExceptHandler} {l : List (Value × Option Nat × SuT)} {pos : Pos} {tb : WX → TS} {Wout : WX}
/-- try with any clauses -/
theorem ps_tryG (stk : X.stack = X.env :: X.outer) (own : X.env.frame = some X.env.locals) (nd : X.N.Nodup) (tk : Takes X Wout)
    (does : ∀ (W : WX) (more : List (Addr × Obj)) (goes : Value → Shared → Prop), Takes (X.tr more goes) W → PassesOwn (model X.prog X.w) X.A X.env goes → PSs (X.tr more goes) body (tb W))
    (hh : HdsG X (h₀ :: hds) l) : PS X (.Try body (h₀ :: hds) [] [] pos) (fun D σ H => tb (wG X.K Wout D l) D σ H) := by
  constructor
  intro pins s σ H D I h
  have frames : X.A.frames = some (X.env :: X.outer) := by rw [I.ok.frames, stk]
  apply wpAny_Try_except
  have go := (does (wG X.K Wout D l) (X.pn ++ pins) (fun e s1 => wpAny (model X.prog X.w) X.A (noteFrame e X.env) (fun _ s2 =>
    wpAny (model X.prog X.w) X.A (setFlight e none) (fun _ s3 => wpAny (model X.prog X.w) X.A (handleBy e X.env (h₀ :: hds)) (SP X pins D) X.xe s3) X.xe s2) X.xe s1) ?_ PassesOwn.looking).run [] s σ H D (I.toTry _) h
  · refine wpAny_mono go (fun f s1 out => ?_) (fun e s1 caught => caught)
    cases f with
    | next => obtain ⟨τ, H1, in1, q⟩ := out; exact wpAny_execs_nil ⟨τ, H1, in1.ofTry I.ok, q⟩
    | brk => obtain ⟨τ, H1, in1, q⟩ := out; exact ⟨τ, H1, in1.ofTry I.ok, q⟩
    | cont => obtain ⟨τ, H1, in1, q⟩ := out; exact ⟨τ, H1, in1.ofTry I.ok, q⟩
    | ret u => obtain ⟨v, τ, H1, in1, r, q⟩ := out; exact ⟨v, τ, H1, in1.ofTry I.ok, r, q⟩
  · rintro u s1 ⟨e, ground, s0, pins0, τ, H1, cls, d, rfl, in1, keep, same, sky, new, sameOs, bare, w⟩
    rw [show (X.tr (X.pn ++ pins) _).stack = X.env :: X.outer from stk] at sky
    refine Sky.land Zc.steady frames own sky fun h2 fly up => ?_
    have F : Fallen X pins τ H1 cls d e { s1 with heap := h2 } := ⟨⟨ground, s0, in1.ofTry I.ok, keep, same.trans up, fly, sameOs, bare⟩, new⟩
    exact F.clauses stk own nd tk hh w
end
/-! ### suites -/
def nodbg' (x : Str) : Bool := !(x == ("__debug__" : Str)) && !(x == ("__classdict__" : Str))
theorem nodbg1' {x : Str} (h : nodbg' x = true) : (x == ("__debug__" : Str)) = false := by
  unfold nodbg' at h; rw [Bool.and_eq_true, Bool.not_eq_true', Bool.not_eq_true'] at h; exact h.1
theorem nodbg2' {x : Str} (h : nodbg' x = true) : (x == ("__classdict__" : Str)) = false := by
  unfold nodbg' at h; rw [Bool.and_eq_true, Bool.not_eq_true', Bool.not_eq_true'] at h; exact h.2
/-- the suite's exception stands at its name -/
def atName (o : Option Nat) (a : Addr) (σ : L2.St) : Prop := ∀ i, o = some i → σ[i]? = some (some (.ref a))
def hotV : E → V
  | .int i => .int i
  | .str z => .str ⟨z.toArray⟩
  | .bl b => .bl b
  | .isx _ b => .bl b
  | _ => .non
def hotPV : E → PV
  | .int i => .int i
  | .str z => .str z
  | .bl b => .bl b
  | .isx _ b => .bl b
  | _ => .non
def hotEs : Es → List E
  | .nil => []
  | .cons e r => e :: hotEs r
def tHot (o : Option Nat) (a : Addr) (v : V) : TE := fun σ H Q => atName o a σ ∧ Q v H
def tHots (o : Option Nat) (a : Addr) (vs : List V) : TA := fun σ H Q => atName o a σ ∧ Q vs H
def tHE (T : Tp) (n : Nat) (o : Option Nat) (a : Addr) (e : E) : TE := fun σ H Q => atName o a σ ∧ ∃ (μ : Mu) (env : Env) (st : Sto), RS T.G μ H env st σ ∧ Post T.G WF μ H σ (evE (T.cl n) T.gs T.ar e env st) (Val T.G Q)
def isxB : E → Bool
  | .isx _ _ => true
  | _ => false
/-- one item of a suite's answer: a constant; isinstance(the exception, ValueError) -/
def hotI (nm : Option Str) (sc : Bool) : E → Expr → Bool
  | .int i, x => match x with
    | .Constant (.int j) _ _ => decide (i = j)
    | _ => false
  | .str z, x => match x with
    | .Constant (.str y) _ _ => decide (y = ⟨z.toArray⟩)
    | _ => false
  | .bl b, x => match x with
    | .Constant (.bool d) _ _ => decide (b = d)
    | _ => false
  | .non, x => match x with
    | .Constant .none _ _ => true
    | _ => false
  | .isx _ b, x => match x with
    | .Call (.Name f _) [.Name y _, .Name z _] [] _ => b && sc && decide (f = ("isinstance" : Str)) && decide (nm = some y) && decide (z = ("ValueError" : Str))
    | _ => false
  | _, _ => false
def hotIs (nm : Option Str) (sc : Bool) : Es → List Expr → Bool
  | .nil, xs => xs.isEmpty
  | .cons e r, xs => match xs with
    | [] => false
    | x :: xs => hotI nm sc e x && hotIs nm sc r xs
/-- an answer: an item, a list of items -/
def hotX (nm : Option Str) (sc : Bool) : E → Expr → Bool
  | .lst _ es, x => match x with
    | .List xs _ => hotIs nm sc es xs
    | _ => false
  | e, x => hotI nm sc e x
section
variable {T : Tp} {n : Nat} {X : Cx} {a : Addr} {o : Option Nat} {nm : Option Str} {sc : Bool} {k : Nat}
/-- where a suite stands -/
structure Su (T : Tp) (X : Cx) (a : Addr) (o : Option Nat) (nm : Option Str) (sc : Bool) (k : Nat) : Prop where
  mg : X.mg = T.mg
  md : T.Md
  slot : ∀ y, nm = some y → ∃ i, o = some i ∧ X.N[i]? = some y ∧ Vis X.env.scope y ∧ nodbg' y = true
  gl : sc = true → Gl X "isinstance" ∧ Gl X "ValueError"
  is : CallR X (.builtin "isinstance") (rIsE X.K (T.G.ca k) a)
  ve : PySem.W.kitOne X.K (.ref (T.G.ca k)) (.type "ValueError") = some true
theorem hotI_ok (S : Su T X a o nm sc k) : ∀ {e : E} {x : Expr}, hotI nm sc e x = true → PE X x (tHot o a (hotV e)) ∧ (∀ env st, evE (T.cl n) T.gs T.ar e env st = .ok (hotPV e) st) ∧ (∀ G μ H, Rep G μ H (hotPV e) (hotV e)) ∧ (∀ y, e ≠ .star y) ∧ notStar x = true := by
  intro e x h
  unfold hotI at h
  split at h
  · split at h
    · have := of_decide_eq_true h; subst this
      exact ⟨PE.imp pe_int fun σ H Q q => q.2, fun env st => by rw [evE]; rfl, fun G μ H => by rw [hotPV, Rep]; rfl, fun y z => (by cases z), rfl⟩
    · cases h
  · split at h
    · have := of_decide_eq_true h; subst this
      exact ⟨PE.imp pe_str fun σ H Q q => q.2, fun env st => by rw [evE]; rfl, fun G μ H => by rw [hotPV, Rep]; rfl, fun y z => (by cases z), rfl⟩
    · cases h
  · split at h
    · have := of_decide_eq_true h; subst this
      exact ⟨PE.imp pe_bl fun σ H Q q => q.2, fun env st => by rw [evE]; rfl, fun G μ H => by rw [hotPV, Rep]; rfl, fun y z => (by cases z), rfl⟩
    · cases h
  · split at h
    · exact ⟨PE.imp pe_non fun σ H Q q => q.2, fun env st => by rw [evE]; rfl, fun G μ H => (show Rep G μ H .non .non from by rw [Rep]), fun y z => (by cases z), rfl⟩
    · cases h
  · split at h
    · simp only [Bool.and_eq_true, decide_eq_true_eq] at h
      obtain ⟨⟨⟨⟨rfl, rfl⟩, rfl⟩, hnm⟩, rfl⟩ := h
      obtain ⟨i, ho, hN, hv, hd⟩ := S.slot _ hnm
      obtain ⟨g1, g2⟩ := S.gl rfl
      have m1 : X.mg "isinstance" = none := by rw [S.mg]; exact S.md.blt _ (by decide +kernel)
      have m2 : X.mg "ValueError" = none := by rw [S.mg]; exact S.md.blt _ (by decide +kernel)
      have pt : ∀ p : Pos, PE X (.Name "ValueError" p) (tC (.ty "ValueError")) := fun p => pe_bltn g2 m2 (by decide +kernel) rfl (by decide +kernel) (by decide +kernel)
      refine ⟨PE.imp (pe_callB S.is g1 m1 (by decide +kernel) (pa_cons (pe_var (X := X) hN hv (nodbg1' hd) (nodbg2' hd)) (pa_cons (pt _) pa_nil) rfl) (by decide +kernel) (by decide +kernel) rfl rfl) fun σ H Q q => ?_, fun env st => by rw [evE]; rfl, fun G μ H => by rw [hotPV, Rep]; rfl, fun y z => (by cases z), rfl⟩
      exact ⟨.ref a, q.1 i ho, _, _, _, rfl, fun u hu => hu, S.ve, q.2⟩
    · cases h
  · cases h
theorem hotIs_ok (S : Su T X a o nm sc k) : ∀ {es : Es} {xs : List Expr}, hotIs nm sc es xs = true → PA X xs (tHots o a ((hotEs es).map hotV)) ∧ (∀ env st, evEs (T.cl n) T.gs T.ar es env st = .ok ((hotEs es).map hotPV) st) ∧ (∀ G μ H, Reps G μ H ((hotEs es).map hotPV) ((hotEs es).map hotV))
  | .nil, xs, h => by
    unfold hotIs at h
    rw [List.isEmpty_iff.mp h]
    exact ⟨PA.imp pa_nil fun σ H Q q => q.2, fun env st => by rw [evEs]; rfl, fun G μ H => rfl⟩
  | .cons e r, xs, h => by
    unfold hotIs at h
    split at h
    · cases h
    · rw [Bool.and_eq_true] at h
      obtain ⟨p1, p2, p3, p4, p5⟩ := hotI_ok (n := n) S h.1
      obtain ⟨q1, q2, q3⟩ := hotIs_ok (es := r) S h.2
      refine ⟨PA.imp (pa_cons p1 q1 (starEach_cons p5 _ _)) fun σ H Q q => ⟨q.1, q.1, q.2⟩, fun env st => ?_, fun G μ H => ⟨_, _, rfl, p3 G μ H, q3 G μ H⟩⟩
      rw [evEs.eq_3 _ _ _ _ _ _ _ (fun y z => p4 y z), p2 env st]
      show (evEs (T.cl n) T.gs T.ar r env st).bind _ = _
      rw [q2 env st]; rfl
theorem hotX_ok (S : Su T X a o nm sc k) : ∀ {e : E} {x : Expr}, hotX nm sc e x = true → PE X x (tHE T n o a e) := by
  intro e x h
  unfold hotX at h
  split at h
  · split at h
    · obtain ⟨q1, q2, q3⟩ := hotIs_ok (n := n) S h
      refine PE.imp (pe_lst q1) fun σ H Q ⟨c, μ, env, st, rs, p⟩ => ⟨c, ?_⟩
      rw [evE, q2 env st] at p
      exact (show Post T.G WF μ H σ (mkL _ _ st) (Val T.G Q) from p).mkL rs.st (q3 T.G μ H)
    · cases h
  · obtain ⟨p1, p2, p3, p4, p5⟩ := hotI_ok (n := n) S h
    refine PE.imp p1 fun σ H Q ⟨c, μ, env, st, rs, p⟩ => ⟨c, ?_⟩
    rw [p2 env st] at p
    exact Post.ok p rs.st _ (p3 T.G μ H)
/-- a suite's one statement -/
def tHS (T : Tp) (n : Nat) (o : Option Nat) (k : Nat) (b : Ss) : SuT := fun a cls d D σ H => cls = .ref (T.G.ca k) ∧ d = none ∧ atName o a σ ∧ ∃ (μ : Mu) (env : Env) (st : Sto), RS T.G μ H env st σ ∧ PostF T.G WF D μ H (evSs (T.cl n) T.gs T.ar b env st)
theorem hs_ret {e : E} {x : Expr} {pos : Pos} (h : PE X x (tHE T n o a e)) : PSs X [.Return (some x) pos] (fun D σ H => atName o a σ ∧ ∃ (μ : Mu) (env : Env) (st : Sto), RS T.G μ H env st σ ∧ PostF T.G WF D μ H (evSs (T.cl n) T.gs T.ar (.cons (.ret e) .nil) env st)) :=
  PSs.imp (pss_one (ps_ret h)) fun D σ H ⟨c, μ, env, st, rs, p⟩ => ⟨c, μ, env, st, rs, by
    rw [evSs, evS] at p
    have q := PostF.then p
    have q := PostF.stmt rs q
    exact q.mono fun x μ1 st1 H1 _ e1 s1 ⟨rs1, q⟩ v rv => q μ1 H1 v (Ext.refl s1) s1 rv⟩
theorem hs_set {e : E} {x : Expr} {pos p2 : Pos} {j : Nat} {y : Str} (nd : X.N.Nodup) (hj : X.N[j]? = some y) (hl : L2.Loc X.env.scope y) (hf : X.fn y = true ∨ X.env.scope.names.lookup y = some .local) (hn : noComp x = true) (h : PE X x (tHE T n o a e)) :
    PSs X [.Assign [.Name y p2] x pos] (fun D σ H => atName o a σ ∧ ∃ (μ : Mu) (env : Env) (st : Sto), RS T.G μ H env st σ ∧ PostF T.G WF D μ H (evSs (T.cl n) T.gs T.ar (.cons (.set (.name j) e) .nil) env st)) :=
  PSs.imp (pss_one (ps_set nd hj hl h (noSwap hn _ _ _) hf)) fun D σ H ⟨c, μ, env, st, rs, p⟩ => ⟨c, μ, env, st, rs, by
    rw [evSs, evS] at p
    have q := PostF.then p
    have q := PostF.stmt rs q
    exact q.mono fun x μ1 st1 H1 _ e1 s1 ⟨rs1, q⟩ v rv => by
      rw [asg] at q
      by_cases hl : j < env.length
      · rw [if_pos hl] at q
        obtain ⟨μ2, env2, st2, rs2, q2⟩ := q μ1 H1 (σ.set j (some v)) (Ext.refl s1) ⟨s1, rs1.env.set rv j⟩
        rw [evSs] at q2
        exact q2 μ2 H1 _ (Ext.refl rs2.st) rs2
      · rw [if_neg hl] at q; exact q.elim⟩
end
/-! ### the clauses' evaluation is what they wish -/
section
variable {T : Tp} {n : Nat} {W : WX}
/-- the clauses as the rule has them -/
def hsL (T : Tp) (n : Nat) : Hs → List (Value × Option Nat × SuT)
  | .nil => []
  | .cons k o b r => (.ref (T.G.ca k), o, tHS T n o k b) :: hsL T n r
/-- every clause names a class of the text -/
def hsIn (m : Nat) : Hs → Bool
  | .nil => true
  | .cons k _ _ r => decide (k < m) && hsIn m r
theorem hs_wish {D : Ends} (md : T.Md) : ∀ (hs : Hs) {k : Nat} {x : Option PV} {env : Env} {st : Sto} {μ : Mu} {H : Hp} {σ : L2.St} {cls : Value} {d : Option Addr}, hsIn T.cs.length hs = true → RS T.G μ H env st σ → IsEx T.G k x μ H cls d → PostF T.G W D μ H (evHs (T.cl n) T.gs T.ar hs k x env st) → wG T.G.K W D (hsL T n hs) cls d σ H
  | .nil, k, x, env, st, μ, H, σ, cls, d, _, rs, ix, p => by
    rw [evHs] at p
    exact p μ H σ cls d (Ext.refl rs.st) rs ix
  | .cons c o b r, k, x, env, st, μ, H, σ, cls, d, hin, rs, ix, p => by
    rw [hsIn, Bool.and_eq_true, decide_eq_true_eq] at hin
    obtain ⟨rfl, rfl, rfl, hk⟩ := id ix
    unfold evHs at p
    refine ⟨decide (k = c), md.exm k c (by rw [← md.nc]; exact hk) hin.1, fun hy a ha => ?_, fun hno => ?_⟩
    · have e := of_decide_eq_true hy
      subst e
      rw [if_pos rfl] at p
      cases o with
      | none =>
        refine ⟨rfl, rfl, fun i z => (by cases z), μ, env, st, rs, ?_⟩
        dsimp only at p
        show PostF T.G WF D μ H _
        cases h : evSs (T.cl n) T.gs T.ar b env st with
        | next e1 s1 => rw [h] at p; exact p
        | brk e1 s1 => rw [h] at p; exact p
        | cnt e1 s1 => rw [h] at p; exact p
        | ret v s1 => rw [h] at p; exact p
        | ex _ _ _ _ => rw [h] at p; exact p.elim
        | bad => rw [h] at p; exact p.elim
      | some i =>
        dsimp only at p
        by_cases hi : i < env.length
        · rw [if_pos hi] at p
          have hiσ : i < σ.length := by rw [← rs.env.len]; exact hi
          refine ⟨rfl, rfl, fun j z => ?_, μ, env.set i none, st, ⟨rs.st, rs.env.clear i (some (.ref a))⟩, ?_⟩
          · cases z
            show (σ.set i (some (.ref a)))[i]? = _
            rw [List.getElem?_set_self hiσ]
          · cases h : evSs (T.cl n) T.gs T.ar b (env.set i none) st with
            | next e1 s1 => rw [h] at p; exact fun μ' H' σ' e q => p μ' H' (σ'.set i none) e ⟨q.st, q.env.clear i none⟩
            | brk e1 s1 => rw [h] at p; exact fun μ' H' σ' e q => p μ' H' (σ'.set i none) e ⟨q.st, q.env.clear i none⟩
            | cnt e1 s1 => rw [h] at p; exact fun μ' H' σ' e q => p μ' H' (σ'.set i none) e ⟨q.st, q.env.clear i none⟩
            | ret v s1 => rw [h] at p; exact p
            | ex _ _ _ _ => rw [h] at p; exact p.elim
            | bad => rw [h] at p; exact p.elim
        · rw [if_neg hi] at p; exact p.elim
    · have e := of_decide_eq_false hno
      rw [if_neg e] at p
      exact hs_wish md r hin.2 rs ix p
/-- the body, wishing what the clauses do -/
theorem try_body {D : Ends} {sb : Ss} {hs : Hs} {μ : Mu} {H : Hp} {env : Env} {st : Sto} (md : T.Md) (hin : hsIn T.cs.length hs = true) (p : PostF T.G W D μ H (evS (T.cl n) T.gs T.ar (.try_ sb hs) env st)) :
    PostF T.G (wG T.G.K W D (hsL T n hs)) D μ H (evSs (T.cl n) T.gs T.ar sb env st) := by
  rw [evS] at p
  cases h : evSs (T.cl n) T.gs T.ar sb env st with
  | next e1 s1 => rw [h] at p; exact p
  | brk e1 s1 => rw [h] at p; exact p
  | cnt e1 s1 => rw [h] at p; exact p
  | ret v s1 => rw [h] at p; exact p
  | bad => rw [h] at p; exact p
  | ex k a e1 s1 =>
    rw [h] at p
    exact fun μ' H' σ' cls d e rs ix => hs_wish md hs hin rs ix (PostF.ext e p)
end
end Ev

/-! EvF: a def keeps what its evaluation promises. -/
namespace Ev
open PySem PySem.Spec PyProof.Rows L2
section
variable {G : Pl} {H : Hp} {μ : Mu} {ν : List Addr}
theorem more_sub {a : Addr} (h : a ∉ (μ.more ν).all) : a ∉ μ.all := fun z => h (Mu.mem_more.mpr (.inl z))
mutual
theorem Rep.narrow : ∀ (x : PV) (v : V), below μ.vis.length x = true → Rep G (μ.more ν) H x v → Rep G μ H x v
  | .non, _, _, h => h
  | .bl _, _, _, h => h
  | .int _, _, _, h => h
  | .str _, _, _, h => h
  | .tup xs, _, b, ⟨a, vs, h1, h2, h3⟩ => ⟨a, vs, h1, h2, Reps.narrow xs vs (by rw [below] at b; exact b) h3⟩
  | .pl xs, _, b, ⟨a, vs, h1, h2, h3, h4⟩ => ⟨a, vs, h1, more_sub h2, h3, Reps.narrow xs vs (by rw [below] at b; exact b) h4⟩
  | .scr xs, _, b, ⟨a, vs, h1, h2, h4⟩ => ⟨a, vs, h1, h2.elim (fun z => .inl ⟨more_sub z.1, z.2⟩) .inr, Reps.narrow xs vs (by rw [below] at b; exact b) h4⟩
  | .ml i, _, b, ⟨a, h1, h2, h3⟩ => ⟨a, h1, by
      rw [below, decide_eq_true_eq] at b
      have h2 : (μ.vis ++ ν)[i]? = some a := h2
      rw [List.getElem?_append_left b] at h2; exact h2, h3⟩
  | .dic true xs, _, b, ⟨a, vs, o, ys, h1, h2, h3, h4, h5, h6, h7⟩ => ⟨a, vs, o, ys, h1, more_sub h2, h3, h4, h5, h6, Reps.narrow xs vs (by rw [below] at b; exact b) h7⟩
  | .dic false xs, _, b, ⟨a, vs, kvs, h1, h2, h3, h4, h5, h6⟩ => ⟨a, vs, kvs, h1, more_sub h2, h3, h4, h5, Reps.narrow xs vs (by rw [below] at b; exact b) h6⟩
  | .md i, _, b, ⟨a, h1, h2, h3⟩ => ⟨a, h1, by
      rw [below, decide_eq_true_eq] at b
      have h2 : (μ.vis ++ ν)[i]? = some a := h2
      rw [List.getElem?_append_left b] at h2; exact h2, h3⟩
  | .fn _, _, _, h => h
  | .exn, _, _, h => h
theorem Reps.narrow : ∀ (xs : List PV) (vs : List V), belows μ.vis.length xs = true → Reps G (μ.more ν) H xs vs → Reps G μ H xs vs
  | [], _, _, h => h
  | x :: xs, _, b, ⟨v, r, h1, h2, h3⟩ => by
    rw [belows, Bool.and_eq_true] at b
    exact ⟨v, r, h1, Rep.narrow x v b.1 h2, Reps.narrow xs r b.2 h3⟩
end
theorem belowAll_get {n : Nat} : ∀ {k : Nat} {st : Sto} {i : Nat} {xs : List PV}, belowAll n k st = true → i < k → st[i]? = some xs → belows n xs = true
  | 0, _, _, _, _, h, _ => by omega
  | k + 1, [], i, xs, _, _, e => by simp at e
  | k + 1, ys :: r, 0, xs, b, _, e => by
    rw [belowAll, Bool.and_eq_true] at b
    have : ys = xs := by simpa using e
    rw [← this]; exact b.1
  | k + 1, ys :: r, i + 1, xs, b, h, e => by
    rw [belowAll, Bool.and_eq_true] at b
    exact belowAll_get (i := i) b.2 (by omega) (by simpa using e)
theorem RepSt.narrow {st : Sto} (r : RepSt G (μ.more ν) H st) (hb : belowAll μ.vis.length μ.vis.length st = true) (hl : μ.vis.length ≤ st.length) : RepSt G μ H (st.take μ.vis.length) := by
  refine ⟨by rw [List.length_take]; omega, (List.nodup_append.mp (show (μ.vis ++ ν).Nodup from r.nd)).1, fun a ha z => r.dis a ha (List.mem_append_left _ z), r.hid, fun i xs e => ?_⟩
  by_cases hi : i < μ.vis.length
  · rw [List.getElem?_take_of_lt hi] at e
    obtain ⟨a, h1, vs, h3, h2⟩ := r.cell i xs e
    have h1 : (μ.vis ++ ν)[i]? = some a := h1
    rw [List.getElem?_append_left hi] at h1
    exact ⟨a, h1, vs, Reps.narrow xs vs (belowAll_get hb hi e) h3, h2⟩
  · rw [List.getElem?_eq_none (by rw [List.length_take]; omega)] at e; cases e
theorem Ext.narrow {H0 : Hp} (e : Ext μ H0 (μ.more ν) H) : Ext μ H0 μ H := ⟨⟨e.lst, e.kl, e.kd, ⟨[], (Mu.more_nil μ).symm, by simp⟩, e.keep⟩, e.hold⟩
theorem reps_frz {μ' : Mu} {f : PV → Option PV} (hf : ∀ x w v, f x = some w → Rep G μ' H x v → Rep G μ H w v) : ∀ {xs ys : List PV} {vs : List V}, mapO f xs = some ys → Reps G μ' H xs vs → Reps G μ H ys vs
  | [], ys, vs, h, r => by cases h; exact r
  | x :: xs, ys, vs, h, ⟨v, r, h1, h2, h3⟩ => by
    unfold mapO at h
    cases e : f x with
    | none => rw [e] at h; cases h
    | some y =>
      rw [e] at h
      cases e2 : mapO f xs with
      | none => rw [e2] at h; cases h
      | some zs =>
        rw [e2] at h; cases h
        exact ⟨v, r, h1, hf x y v e h2, reps_frz hf e2 h3⟩
theorem mapO_same {f : PV → Option PV} : ∀ {xs ys : List PV}, (∀ x ∈ xs, ∀ w, f x = some w → w = x) → mapO f xs = some ys → ys = xs
  | [], ys, _, h => by cases h; rfl
  | x :: xs, ys, k, h => by
    unfold mapO at h
    cases e : f x with
    | none => rw [e] at h; cases h
    | some y =>
      rw [e] at h
      cases e2 : mapO f xs with
      | none => rw [e2] at h; cases h
      | some zs =>
        rw [e2] at h; cases h
        rw [k x (List.mem_cons_self ..) y e, mapO_same (fun z hz => k z (List.mem_cons_of_mem _ hz)) e2]
theorem keysK_each {d : Nat} : ∀ {xs : List PV} {l : List NestedKey}, keysK d xs = some l → ∀ x ∈ xs, ∃ k, keyK d x = some k
  | [], _, _, x, hx => by cases hx
  | y :: xs, l, h, x, hx => by
    obtain ⟨a, r, h1, h2, _⟩ := keysK_cons h
    rcases List.mem_cons.mp hx with rfl | hx
    · exact ⟨a, h1⟩
    · exact keysK_each h2 x hx
/-- a key stays what it is -/
theorem frz_key {n : Nat} {st : Sto} : ∀ (d e : Nat) (x w : PV) (k : NestedKey), froze n st d x = some w → keyK e x = some k → w = x
  | 0, e, x, w, k, h, _ => by
    unfold froze at h
    split at h
    · cases h; rfl
    · cases h
  | d + 1, e, x, w, k, h, hk => by
    rcases keyK_inv hk with ⟨rfl, _⟩ | ⟨_, rfl, _⟩ | ⟨_, rfl, _⟩ | ⟨_, rfl, _⟩ | ⟨xs, e', l, rfl, rfl, h1, _⟩
    · cases h; rfl
    · cases h; rfl
    · cases h; rfl
    · cases h; rfl
    · unfold froze at h
      obtain ⟨ys, h2, rfl⟩ := Option.map_eq_some_iff.mp h
      rw [mapO_same (fun z hz w hw => by obtain ⟨k', hk'⟩ := keysK_each h1 z hz; exact frz_key d e' z w k' hw hk') h2]
theorem mapO_two {f : PV → Option PV} {k v : PV} {r ys : List PV} (h : mapO f (k :: v :: r) = some ys) : ∃ k' v' r', f k = some k' ∧ f v = some v' ∧ mapO f r = some r' ∧ ys = k' :: v' :: r' := by
  unfold mapO at h
  cases e : f k with
  | none => rw [e] at h; cases h
  | some y =>
    rw [e] at h
    unfold mapO at h
    cases e1 : f v with
    | none => rw [e1] at h; cases h
    | some z =>
      rw [e1] at h
      cases e2 : mapO f r with
      | none => rw [e2] at h; cases h
      | some zs => rw [e2] at h; cases h; exact ⟨y, z, zs, rfl, rfl, rfl, rfl⟩
theorem frz_keysT {n d : Nat} {st : Sto} : ∀ {xs ys : List PV} {l : List NestedKey}, mapO (froze n st d) xs = some ys → keysT xs = some l → keysT ys = some l
  | [], ys, l, h, hk => by cases h; exact hk
  | [_], ys, l, h, hk => by simp [keysT] at hk
  | k :: v :: r, ys, l, h, hk => by
    obtain ⟨k', v', r', h1, h2, h3, rfl⟩ := mapO_two h
    rw [keysT] at hk
    split at hk
    · rename_i a t e1 e2
      cases hk
      obtain ⟨xs, rfl⟩ : ∃ xs, k = .tup xs := by cases k <;> first | exact ⟨_, rfl⟩ | cases e1
      rw [frz_key d 8 _ _ a h1 e1, keysT, e1, frz_keysT h3 e2]
    · cases hk
theorem frz_leafs {n d : Nat} {st : Sto} : ∀ {xs ys : List PV}, mapO (froze n st d) xs = some ys → leafsB xs = true → leafsB ys = true
  | [], ys, h, hk => by cases h; exact hk
  | [_], ys, h, hk => by simp [leafsB] at hk
  | k :: v :: r, ys, h, hk => by
    obtain ⟨k', v', r', h1, h2, h3, rfl⟩ := mapO_two h
    rw [leafsB, Bool.and_eq_true] at hk
    have : k' = k := by
      cases k <;> first | (cases hk.1; done) | skip
      · exact frz_key d 8 _ _ _ h1 rfl
      · exact frz_key d 8 _ _ _ h1 rfl
    rw [this, leafsB, hk.1, frz_leafs h3 hk.2]; rfl
/-- a place behind the old ones is none of the old ones -/
theorem own_new {st : Sto} (s : RepSt G (μ.more ν) H st) {i : Nat} {a : Addr} (hi : ¬ i < μ.vis.length) (h2 : (μ.more ν).vis[i]? = some a) : a ∉ μ.all := fun z => by
  have h2 : (μ.vis ++ ν)[i]? = some a := h2
  rcases List.mem_append.mp z with z | z
  · obtain ⟨j, hj⟩ := List.mem_iff_getElem?.mp z
    have hjl : j < μ.vis.length := (List.getElem?_eq_some_iff.mp hj).1
    have hj' : (μ.vis ++ ν)[j]? = some a := by rw [List.getElem?_append_left hjl]; exact hj
    obtain ⟨l1, m1⟩ := List.getElem?_eq_some_iff.mp h2
    obtain ⟨l2, m2⟩ := List.getElem?_eq_some_iff.mp hj'
    have := (List.getElem_inj (show (μ.vis ++ ν).Nodup from s.nd)).mp (m1.trans m2.symm)
    omega
  · exact s.dis a z (List.mem_of_getElem? h2)
theorem froze_rep {st : Sto} (s : RepSt G (μ.more ν) H st) : ∀ (d : Nat) (x w : PV) (v : V), froze μ.vis.length st d x = some w → Rep G (μ.more ν) H x v → Rep G μ H w v := by
  intro d
  induction d with
  | zero =>
    intro x w v h r
    unfold froze at h
    split at h
    · rename_i hb; cases h; exact Rep.narrow x v hb r
    · cases h
  | succ d ih =>
    intro x w v h r
    have rest : (if below μ.vis.length x then some x else none) = some w → Rep G μ H w v := fun h => by
      split at h
      · rename_i hb; cases h; exact Rep.narrow x v hb r
      · cases h
    cases x with
    | tup xs =>
      unfold froze at h
      obtain ⟨ys, e, rfl⟩ := Option.map_eq_some_iff.mp h
      obtain ⟨a, vs, h1, h2, h3⟩ := r
      exact ⟨a, vs, h1, h2, reps_frz ih e h3⟩
    | pl xs =>
      unfold froze at h
      obtain ⟨ys, e, rfl⟩ := Option.map_eq_some_iff.mp h
      obtain ⟨a, vs, h1, h2, h3, h4⟩ := r
      exact ⟨a, vs, h1, more_sub h2, h3, reps_frz ih e h4⟩
    | ml i =>
      unfold froze at h
      by_cases hi : i < μ.vis.length
      · rw [if_pos hi] at h; cases h
        exact Rep.narrow _ v (by rw [below]; exact decide_eq_true hi) r
      · rw [if_neg hi] at h
        cases e : st[i]? with
        | none => rw [e] at h; cases h
        | some xs =>
          rw [e] at h
          obtain ⟨ys, e2, rfl⟩ := Option.map_eq_some_iff.mp h
          obtain ⟨a, h1, h2, hl⟩ := r
          obtain ⟨vs, q2, q3⟩ := s.at_ i xs e h2 hl
          exact ⟨a, vs, h1, own_new s hi h2, q2, reps_frz ih e2 q3⟩
    | dic t xs =>
      unfold froze at h
      obtain ⟨ys, e, rfl⟩ := Option.map_eq_some_iff.mp h
      cases t
      · obtain ⟨a, vs, kvs, h1, h2, h3, h4, h5, h6⟩ := r
        exact ⟨a, vs, kvs, h1, more_sub h2, h3, frz_leafs e h4, h5, reps_frz ih e h6⟩
      · obtain ⟨a, vs, o, zs, h1, h2, h3, h4, h5, h6, h7⟩ := r
        exact ⟨a, vs, o, zs, h1, more_sub h2, h3, h4, frz_keysT e h5, h6, reps_frz ih e h7⟩
    | md i =>
      unfold froze at h
      by_cases hi : i < μ.vis.length
      · rw [if_pos hi] at h; cases h
        exact Rep.narrow _ v (by rw [below]; exact decide_eq_true hi) r
      · rw [if_neg hi] at h
        cases e : st[i]? with
        | none => rw [e] at h; cases h
        | some xs =>
          rw [e] at h
          obtain ⟨ys, e2, rfl⟩ := Option.map_eq_some_iff.mp h
          obtain ⟨a, h1, h2, hd⟩ := r
          obtain ⟨vs, o, zs, q2, q3, q4, q5, q6⟩ := s.atD i xs e h2 hd
          exact ⟨a, vs, o, zs, h1, own_new s hi h2, q2, q3, frz_keysT e2 q4, q5, reps_frz ih e2 q6⟩
    | non => exact rest h
    | bl _ => exact rest h
    | int _ => exact rest h
    | str _ => exact rest h
    | scr _ => exact rest h
    | fn _ => exact rest h
    | exn => exact rest h
/-- what a def leaves, as the end of its body -/
theorem leave_ok {W : WX} {σ : L2.St} {st0 : Sto} {keep : Bool} {v : PV} {st : Sto} {Q : VK} {H0 : Hp} (s0 : RepSt G μ H0 st0) (p : Post G W μ H0 σ (leave keep st0.length v st) (Val G Q)) {μ' : Mu} {H' : Hp} {x : V} (e : Ext μ H0 μ' H') (s : RepSt G μ' H' st) (r : Rep G μ' H' v x) : Q x H' := by
  unfold leave at p
  split at p
  · exact p μ' H' e s x r
  · rename_i hk
    obtain ⟨ν, rfl, hν⟩ := e.pre
    split at p
    · rename_i hb
      rw [← s0.len] at hb p
      have hl : μ.vis.length ≤ st.length := by
        have z := s.len
        rw [show (μ.more ν).vis = μ.vis ++ ν from rfl, List.length_append] at z; omega
      cases hf : froze μ.vis.length st 8 v with
      | none => rw [hf] at p; exact p.elim
      | some w =>
        rw [hf] at p
        exact p μ H' e.narrow (s.narrow hb hl) x (froze_rep s 8 v w x hf r)
    · exact p.elim
/-- .. as the wish of its body -/
theorem finish_ok {E : XK} {st0 : Sto} {keep : Bool} {r : F} {Q : VK} (s0 : RepSt G μ H st0) (p : Post G (fun cls d _ H => E cls d H) μ H [] (finish keep st0.length r) (Val G Q)) :
    PostF G (fun cls d _ H => E cls d H) { nx := fun _ H' => Q .non H', rt := Q } μ H r := by
  cases r with
  | next env st => exact fun μ' H' σ' e rs => leave_ok s0 p e rs.st (show Rep G μ' H' .non .non from rfl)
  | ret v st => exact fun μ' H' x e s r => leave_ok s0 p e s r
  | brk env st => exact p.elim
  | cnt env st => exact p.elim
  | bad => exact p.elim
  | ex k a env st =>
    intro μ' H' σ' cls d e rs ix
    have ea : a = none := ix.2.1
    subst ea
    have p : Post G (fun cls d _ H => E cls d H) μ H [] (if belowAll st0.length st0.length st && true then (.ex k none (st.take st0.length) : R PV) else .bad) (Val G Q) := p
    by_cases hb : belowAll st0.length st0.length st = true
    · rw [hb, Bool.true_and, if_pos rfl, ← s0.len] at p
      rw [← s0.len] at hb
      obtain ⟨ν, rfl, hν⟩ := e.pre
      have hl : μ.vis.length ≤ st.length := by
        have z := rs.st.len
        rw [show (μ.more ν).vis = μ.vis ++ ν from rfl, List.length_append] at z; omega
      exact p μ H' cls d e.narrow (rs.st.narrow hb hl) ix
    · rw [Bool.eq_false_iff.mpr hb] at p; exact p.elim
end
/-- the slots at the entry -/
theorem env0 {G : Pl} {μ : Mu} {H : Hp} {N : List Str} {xs : List PV} {vs : List V} (r : Reps G μ H xs vs) : RepEnv G μ H (xs.map some ++ List.replicate (N.length - xs.length) none) (L2.start N vs) := by
  refine ⟨?_, fun i x e => ?_⟩
  · show _ = (vs.map some ++ List.replicate (N.length - vs.length) none).length
    simp [r.length]
  · by_cases hi : i < xs.length
    · rw [List.getElem?_append_left (by rw [List.length_map]; exact hi), List.getElem?_map] at e
      obtain ⟨y, e1, e2⟩ := Option.map_eq_some_iff.mp e
      cases e2
      obtain ⟨v, q1, q2⟩ := r.get e1
      refine ⟨v, ?_, q2⟩
      show (vs.map some ++ List.replicate (N.length - vs.length) none)[i]? = _
      rw [List.getElem?_append_left (by rw [List.length_map, ← r.length]; exact hi), List.getElem?_map, q1]; rfl
    · rw [List.getElem?_append_right (by rw [List.length_map]; omega)] at e
      rw [List.getElem?_replicate] at e
      split at e <;> cases e
/-- a def of the text -/
structure DefOk (T : Tp) (i : Nat) (f : Fn) : Prop where
  ex : ∃ (st : Stmt) (nm : Str), FunD T.G.K nm nm (L2.defArgs st) (L2.defBody st) (L2.defScope st) [] [] (T.G.fa i) (T.fd i) ∧ L2.FnScope f.N (f.N.take f.np) (L2.defScope st) ∧
    (∀ (n : Nat) (X : Cx) (W : WX), T.Ok n → Cool T n X W → X.stack = X.env :: X.outer → X.env.frame = some X.env.locals → X.N = f.N → X.env.scope = L2.defScope st → (X.fn = fun _ => true) → PSs X (L2.defBody st) (tSs T n W f.body))
  np : f.np ≤ f.N.length
  mg : T.mg f.name = some (.ref (T.G.fa i))
  kp : PySem.W.keepIn T.G.K (.ref (T.G.fa i)) = true
  binds : PlainFd (T.fd i) (f.N.take f.np)
theorem sp_len {T : Tp} {n i : Nat} {f : Fn} (hf : T.fs[i]? = some f) (hn : f.np ≤ f.N.length) {vs : List V} {H : Hp} {Q : VK} {E : XK} (h : T.sp n i vs H Q E) : vs.length = (f.N.take f.np).length := by
  obtain ⟨μ, st, xs, s, r, p⟩ := h
  cases n with
  | zero => exact p.elim
  | succ n =>
    unfold callN at p
    rw [hf] at p
    dsimp only at p
    by_cases hl : xs.length = f.np
    · rw [List.length_take, ← r.length, hl]; omega
    · rw [if_neg hl] at p; exact p.elim
theorem fn_step {T : Tp} {n i : Nat} {f : Fn} (K : T.Ok n) (hf : T.fs[i]? = some f) (D : DefOk T i f) : FnOk T.P T.w T.G.K T.mg T.base (L2.CX T.P T.w) (n + 1) (T.G.fa i) (T.fd i) (f.N.take f.np) (T.sp (n + 1) i) := by
  obtain ⟨st, nm, F, S, body⟩ := D.ex
  refine F.ok S (fun vs H Q E h => sp_len hf D.np h) fun cdv A outer s H vs Q E hr h => ?_
  obtain ⟨μ, st0, xs, s0, r, p⟩ := h
  unfold callN at p
  rw [hf] at p
  dsimp only at p
  by_cases hl : xs.length = f.np
  · rw [if_pos hl] at p
    have C : Cool T n (cxOf (L2.CX T.P T.w) T.P T.w T.G.K T.mg T.base f.N nm (L2.defScope st) (T.G.fa i) cdv A outer s H E) (fun cls d _ H => E cls d H) :=
      { prog := rfl, w := rfl, gw := K.toMd.gw, K := rfl, mg := rfl, base := rfl, nd := S.nd, un := by have := hr.un; show (A.deeper _).units + 65 < _; omega
        takes := takes_of rfl rfl rfl rfl, pass := passes_of rfl, calm := rfl, room := hr }
    refine ⟨_, body n _ _ K C rfl rfl rfl rfl rfl, μ, _, st0, ⟨s0, env0 (N := f.N) r⟩, ?_⟩
    exact finish_ok s0 p
  · rw [if_neg hl] at p; exact p.elim
/-- what is known of the module, at every depth -/
structure Tp.Base (T : Tp) : Prop extends T.Md where
  df : ∀ (i : Nat) (f : Fn), T.fs[i]? = some f → DefOk T i f
theorem ok_all {T : Tp} (B : T.Base) : ∀ n, T.Ok n
  | 0 => ⟨B.toMd, fun i f hf => ⟨(B.df i f hf).mg, (B.df i f hf).kp, ⟨fun vs H Q E h => sp_len hf (B.df i f hf).np h, fun A outer s H args us vs Q E hr he hb hv hs => by
      obtain ⟨μ, st, xs, s, r, p⟩ := hs
      exact p.elim⟩, (B.df i f hf).binds⟩⟩
  | n + 1 => ⟨B.toMd, fun i f hf => ⟨(B.df i f hf).mg, (B.df i f hf).kp, fn_step (ok_all B n) hf (B.df i f hf), (B.df i f hf).binds⟩⟩
end Ev

/-! EvK: a look that the evaluator's text is the program's. -/
namespace Ev
open PySem PySem.Spec PyProof.Rows L2
/-- where an expression stands -/
structure Cc where
  N : List Str
  sc : Scope
  fn : Str → Bool
  fs : List Str
  ps : List (List Str)
  gn : List Str
  cs : List Str
  dn : List Str
  hot : Bool
def visB (sc : Scope) (x : Str) : Bool := match sc.names.lookup x with
  | some .local => true
  | some .cell => true
  | some .free => true
  | _ => false
def locB (sc : Scope) (x : Str) : Bool := match sc.names.lookup x with
  | some .local => true
  | some .cell => true
  | _ => false
def isLoc (sc : Scope) (x : Str) : Bool := decide (sc.names.lookup x = some .local)
def glB (sc : Scope) (x : Str) : Bool := decide (sc.names.lookup x = some .globalImplicit)
def nodbg (x : Str) : Bool := !(x == ("__debug__" : Str)) && !(x == ("__classdict__" : Str))
def isStar : E → Bool
  | .star _ => true
  | _ => false
def noCall : Expr → Bool
  | .Call .. => false
  | _ => true
def noSet : Expr → Bool
  | .Set .. => false
  | _ => true
def pyTy (t : Ty) (x : Expr) (sc : Scope) : Bool := match x with
  | .Name y _ => decide (y = tyN t) && glB sc y
  | _ => false
def pyTys (ts : List Ty) (x : Expr) (sc : Scope) : Bool := match ts with
  | [t] => pyTy t x sc
  | [t, u] => (match x with
    | .Tuple [a, b] _ _ => pyTy t a sc && pyTy u b sc
    | _ => false)
  | _ => false
def Cc.blk (c : Cc) (scope : Scope) : Cc := { c with sc := relS scope c.sc, fn := fun x => scope.names.lookup x == some .cell }
/-- the context is the one told -/
structure Cag (c : Cc) (T : Tp) (n : Nat) (X : Cx) (W : WX) : Prop where
  N : X.N = c.N
  sc : X.env.scope = c.sc
  fn : X.fn = c.fn
  fs : T.fs.map (·.name) = c.fs
  ps : T.fs.map (fun f => f.N.take f.np) = c.ps
  pn : ∀ f ∈ T.fs, f.np ≤ f.N.length
  gn : T.gn = c.gn
  cs : T.cs = c.cs
  dn : T.dn = c.dn
  ok : Cok T n X W
  cool : c.hot = false → Cool T n X W
  md : T.Md
  K : c.hot = false → T.Ok n
def smName : Sm → Str
  | .split => "split" | .join => "join" | .index => "index"
mutual
/-- tst: as a test -/
def cX (c : Cc) : Bool → E → Expr → Bool
  | tst, .var i, x => match x with
    | .Name y _ => decide (c.N[i]? = some y) && visB c.sc y && nodbg y
    | _ => false
  | tst, .int i, x => match x with
    | .Constant (.int j) _ _ => !tst && decide (i = j)
    | _ => false
  | tst, .str z, x => match x with
    | .Constant (.str y) _ _ => !tst && decide (y = ⟨z.toArray⟩)
    | _ => false
  | tst, .bl b, x => match x with
    | .Constant (.bool d) _ _ => decide (b = d)
    | _ => false
  | tst, .non, x => match x with
    | .Constant .none _ _ => !tst
    | _ => false
  | tst, .gv i, x => match x with
    | .Name y _ => decide (c.gn[i]? = some y) && glB c.sc y && nodbg y
    | _ => false
  | tst, .fnv i, x => match x with
    | .Name y _ => !c.hot && decide (c.fs[i]? = some y) && glB c.sc y && nodbg y
    | _ => false
  | tst, .bin op _ a b, x => match x with
    | .BinOp y o z _ => !tst && decide (o = bop op) && cX c false a y && cX c false b z
    | _ => false
  | tst, .neg a, x => match x with
    | .UnaryOp .USub y _ => !tst && cX c false a y
    | _ => false
  | tst, .cmp op a b, x => match x with
    | .Compare y [o] [z] _ => decide (o = cop op) && !behindInMarks (cop op) z && cX c false a y && cX c false b z
    | _ => false
  | tst, .chain op op' a b d, x => match x with
    | .Compare y [o, o'] [z, w] _ => decide (o = cop op) && decide (o' = cop op') && !lastMarks [cop op, cop op'] [z, w] && cX c false a y && cX c false b z && cX c false d w
    | _ => false
  | tst, .isn g a, x => match x with
    | .Compare y [o] [.Constant .none _ _] _ => decide (o = if g then .IsNot else .Is) && cX c false a y
    | _ => false
  | tst, .and_ es, x => match x with
    | .BoolOp .And xs _ => cB c tst es xs
    | _ => false
  | tst, .or_ es, x => match x with
    | .BoolOp .Or xs _ => cB c tst es xs
    | _ => false
  | tst, .not_ a, x => match x with
    | .UnaryOp .Not y _ => cX c tst a y
    | _ => false
  | tst, .ite d a b, x => match x with
    | .IfExp z y w _ => !tst && cX c true d z && cX c false a y && cX c false b w
    | _ => false
  | tst, .tup es, x => match x with
    | .Tuple xs _ _ => !tst && cA c es xs
    | _ => false
  | tst, .lst _ es, x => match x with
    | .List xs _ => !tst && cA c es xs
    | _ => false
  | _, .star _, _ => false
  | tst, .idx a b, x => match x with
    | .Subscript y z _ => plainIx z && cX c false a y && cX c false b z
    | _ => false
  | tst, .slc _ a lo hi, x => match x with
    | .Subscript y (.Slice l h none _) _ => cX c false a y && cO c lo l && cO c hi h
    | _ => false
  | tst, .stp _ a lo hi sp, x => match x with
    | .Subscript y (.Slice l h (some p) _) _ => cX c false a y && cO c lo l && cO c hi h && cO c sp (some p)
    | _ => false
  | tst, .call f es, x => match x with
    | .Call (.Name y _) xs [] _ => !c.hot && decide (c.fs[f]? = some y) && glB c.sc y && nodbg y && xs.all notStar && cA c es xs
    | _ => false
  | tst, .callk f es ks kes, x => match x with
    | .Call (.Name y _) xs kws _ => !c.hot && decide (c.fs[f]? = some y) && glB c.sc y && nodbg y && xs.all notStar && cA c es xs && cK c kes kws && decide (kws.map (·.arg) = (kwN (c.ps.getD f []) ks).map some) && kwOk (c.ps.getD f []).length xs.length ks && decide (kws.length = ks.length)
    | _ => false
  | tst, .callv g es, x => match x with
    | .Call y xs [] _ => !c.hot && notAttr y && cX c false g y && xs.all notStar && cA c es xs
    | _ => false
  | tst, .prim p _ es, x => match x with
    | .Call (.Name y _) (a :: xs) [] _ => !c.hot && decide (y = prName p) && glB c.sc y && notStar a && xs.all notStar && cA c es (a :: xs)
    | _ => false
  | tst, .isi a ts, x => match x with
    | .Call (.Name y _) [z, w] [] _ => decide (y = ("isinstance" : Str)) && glB c.sc y && notStar z && pyTys ts w c.sc && cX c false a z
    | _ => false
  | _, .isx _ _, _ => false
  | _, .sset _ a, x => match x with
    | .Call (.Name y _) [.Call (.Name z _) [w] [] _] [] _ => !c.hot && decide (y = ("sorted" : Str)) && decide (z = ("set" : Str)) && glB c.sc y && glB c.sc z && notStar w && cX c false a w
    | _ => false
  | _, .lens a, x => match x with
    | .Call (.Name y _) [.Call (.Name z _) [w] [] _] [] _ => !c.hot && decide (y = ("len" : Str)) && decide (z = ("set" : Str)) && glB c.sc y && glB c.sc z && notStar w && cX c false a w
    | _ => false
  | tst, .comp _ own t it cond elt, x => match x with
    | .ListComp e [⟨tg, iter, ifs, 0⟩] scope _ => !tst && !c.hot && blkC c.N c.sc scope own && t.pure && t.ns.all (fun j => decide (j ∈ own.map (·.2))) && noSet iter && cI c tg it iter && cG (c.blk scope) t tg && cD (c.blk scope) cond ifs && cX (c.blk scope) false elt e
    | _ => false
  | _, .comp2 _ _ _ _ _ _ _ _ _ _, _ => false
  | tst, .meth k o es, x => match x with
    | .Call (.Attribute y m apos) xs [] pos => decide (apos.endLine = pos.line) && noCall y && cX c false o y && cA c es xs && (match k, xs with
      | .append, [a] => decide (m = ("append" : Str)) && notStar a
      | .extend, [a] => decide (m = ("extend" : Str)) && notStar a
      | .popAt, [a] => decide (m = ("pop" : Str)) && notStar a
      | .index, [a] => decide (m = ("index" : Str)) && notStar a
      | .insert, [a, b] => decide (m = ("insert" : Str)) && notStar a && notStar b
      | .pop, [] => decide (m = ("pop" : Str)) && (match es with | .nil => true | .cons _ _ => false)
      | _, _ => false)
    | _ => false
  | _, .hole, _ => true
  | tst, .smeth k _ o es, x => match x, es with
    | .Call (.Attribute y m apos) [a] [] pos, .cons e .nil => decide (apos.endLine = pos.line) && noCall y && cX c false o y && !isStar e && notStar a && cX c false e a && decide (m = smName k)
    | _, _ => false
  | _, .ind ng d a, x => match x with
    | .Compare y [o] [.Name z p] _ => decide (o = if ng then .NotIn else .In) && decide (c.gn.length ≤ d) && decide (c.dn[d - c.gn.length]? = some z) && glB c.sc z && nodbg z && !behindInMarks (if ng then .NotIn else .In) (.Name z p) && cX c false a y
    | _ => false
  | _, .idxd d a, x => match x with
    | .Subscript (.Name z _) y _ => plainIx y && decide (c.gn.length ≤ d) && decide (c.dn[d - c.gn.length]? = some z) && glB c.sc z && nodbg z && cX c false a y
    | _ => false
  | _, .isb ng b a, x => match x with
    | .Compare y [o] [.Constant (.bool e) j p] _ => decide (o = if ng then .IsNot else .Is) && decide (e = b) && !behindInMarks (if ng then .IsNot else .Is) (.Constant (.bool e) j p) && cX c false a y
    | _ => false
  | tst, .dnew _, x => match x with
    | .Dict [] [] _ => !tst
    | _ => false
  | tst, .ddisp es, x => match x with
    | .Dict ks vs _ => !tst && cPk c es ks vs && decide (ks.length = vs.length) && decide (ks.length ≤ 15) && !ks.isEmpty && ks.all (·.isSome)
    | _ => false
  | tst, .dget o es, x => match x with
    | .Call (.Attribute y m apos) xs [] pos => decide (apos.endLine = pos.line) && noCall y && cX c false o y && decide (m = ("get" : Str)) && cA c es xs && (match es, xs with
      | .cons e .nil, [a] => !isStar e && notStar a
      | .cons e (.cons f .nil), [a, b] => !isStar e && !isStar f && notStar a && notStar b
      | _, _ => false)
    | _ => false
/-- a display's pairs -/
def cPk (c : Cc) : Es → List (Option Expr) → List Expr → Bool
  | .nil, ks, vs => ks.isEmpty && vs.isEmpty
  | .cons k r, ks, vs => match ks with
    | some a :: ks => !isStar k && cX c false k a && cPv c r ks vs
    | _ => false
def cPv (c : Cc) : Es → List (Option Expr) → List Expr → Bool
  | .nil, _, _ => false
  | .cons v r, ks, vs => match vs with
    | b :: vs => !isStar v && cX c false v b && cPk c r ks vs
    | _ => false
/-- an argument list -/
def cA (c : Cc) : Es → List Expr → Bool
  | .nil, xs => xs.isEmpty
  | .cons e r, xs => match xs with
    | [] => false
    | x :: xs => (match e with
      | .star e' => (match x with
        | .Starred y _ => cX c false e' y
        | _ => false)
      | e => notStar x && !isStar e && cX c false e x) && cA c r xs
/-- keywords' values -/
def cK (c : Cc) : Es → List Keyword → Bool
  | .nil, xs => xs.isEmpty
  | .cons e r, xs => match xs with
    | [] => false
    | ⟨_, x, _⟩ :: xs => !isStar e && cX c false e x && cK c r xs
/-- the parts of and, or -/
def cB (c : Cc) : Bool → Es → List Expr → Bool
  | _, .nil, _ => false
  | tst, .cons e r, xs => match xs with
    | [] => false
    | x :: xs => cX c tst e x && (match r with
      | .nil => xs.isEmpty
      | .cons e' r' => cB c tst r xs)
/-- a part of a slice -/
def cO (c : Cc) : Es → Option Expr → Bool
  | .nil, x => x.isNone
  | .cons e _, x => match x with
    | some x => cX c false e x
    | none => false
/-- a clause's tests -/
def cD (c : Cc) : Es → List Expr → Bool
  | .nil, xs => xs.isEmpty
  | .cons e _, xs => match xs with
    | [x] => cX c true e x
    | _ => false
def cI (c : Cc) (tg : Expr) : It → Expr → Bool
  | .e a, x => cX c false a x
  | .range es, x => match x with
    | .Call (.Name y _) xs [] _ => decide (y = ("range" : Str)) && glB c.sc y && cA c es xs && xs.all notStar && (match es, xs with
      | .cons a .nil, [_] => !isStar a
      | .cons a (.cons b .nil), [_, _] => !isStar a && !isStar b
      | .cons a (.cons b (.cons d .nil)), [_, _, _] => !isStar a && !isStar b && !isStar d
      | _, _ => false)
    | _ => false
  | .zip a b, x => match x, tg with
    | .Call (.Name y _) [z, w] [] _, .Tuple _ _ _ => decide (y = ("zip" : Str)) && glB c.sc y && notStar z && notStar w && cX c false a z && cX c false b w
    | _, _ => false
  | .enum a, x => match x, tg with
    | .Call (.Name y _) [z] [] _, .Tuple _ _ _ => decide (y = ("enumerate" : Str)) && glB c.sc y && notStar z && cX c false a z
    | _, _ => false
def cG (c : Cc) : Tg → Expr → Bool
  | .name i, x => match x with
    | .Name y _ => decide (c.N[i]? = some y) && locB c.sc y && (c.fn y || isLoc c.sc y)
    | _ => false
  | .tup ts, x => match x with
    | .Tuple xs _ _ => !c.hot && xs.all notStar && decide (xs.length = ts.len) && cGs c ts xs
    | _ => false
  | .sub o i, x => match x with
    | .Subscript y z _ => plainIx z && cX c false o y && cX c false i z
    | _ => false
  | .st2 _ _, _ => false
def cGs (c : Cc) : Tgs → List Expr → Bool
  | .nil, xs => xs.isEmpty
  | .cons t r, xs => match xs with
    | [] => false
    | x :: xs => cG c t x && cGs c r xs
end
end Ev

/-! EvK2: the look is right, for expressions. -/
namespace Ev
open PySem PySem.Spec PyProof.Rows L2
section
variable {c : Cc} {T : Tp} {n : Nat} {X : Cx} {W : WX}
theorem gl_of (A : Cag c T n X W) {x : Str} (h : glB c.sc x = true) : Gl X x := by
  show X.env.scope.names.lookup x = _
  rw [A.sc]; exact of_decide_eq_true h
theorem vis_of (A : Cag c T n X W) {x : Str} (h : visB c.sc x = true) : Vis X.env.scope x := by
  unfold visB at h
  unfold Vis
  rw [A.sc]
  split at h
  · exact .inl (by assumption)
  · exact .inr (.inl (by assumption))
  · exact .inr (.inr (by assumption))
  · cases h
theorem loc_of (A : Cag c T n X W) {x : Str} (h : locB c.sc x = true) : L2.Loc X.env.scope x := by
  unfold locB at h
  unfold L2.Loc
  rw [A.sc]
  split at h
  · exact .inl (by assumption)
  · exact .inr (by assumption)
  · cases h
theorem isLoc_of (A : Cag c T n X W) {x : Str} (h : isLoc c.sc x = true) : X.env.scope.names.lookup x = some .local := by
  rw [A.sc]; exact of_decide_eq_true h
theorem st_of (A : Cag c T n X W) {x : Str} (h : (c.fn x || isLoc c.sc x) = true) : X.fn x = true ∨ X.env.scope.names.lookup x = some .local := by
  rw [Bool.or_eq_true] at h
  rw [A.fn]
  exact h.imp id fun h => isLoc_of A h
theorem nodbg1 {x : Str} (h : nodbg x = true) : (x == ("__debug__" : Str)) = false := by
  unfold nodbg at h; rw [Bool.and_eq_true, Bool.not_eq_true', Bool.not_eq_true'] at h; exact h.1
theorem nodbg2 {x : Str} (h : nodbg x = true) : (x == ("__classdict__" : Str)) = false := by
  unfold nodbg at h; rw [Bool.and_eq_true, Bool.not_eq_true', Bool.not_eq_true'] at h; exact h.2
theorem fs_of (A : Cag c T n X W) {i : Nat} {x : Str} (h : c.fs[i]? = some x) : ∃ f, T.fs[i]? = some f ∧ f.name = x := by
  rw [← A.fs, List.getElem?_map] at h
  exact Option.map_eq_some_iff.mp h
theorem blk_of (A : Cag c T n X W) (hc : c.hot = false) (s : Shared) (H : Hp) (scope : Scope) (C : Addr) (cl : List (Str × Addr)) (fp : List Addr) : Cag (c.blk scope) T n (X.blk s H scope (compEnvC scope cl C X.env) fp) WF := by
  have q := A.cool hc
  have k : Cok T n (X.blk s H scope (compEnvC scope cl C X.env) fp) WF := ⟨q.prog, q.w, q.gw, q.K, q.mg, q.base, q.nd, q.un, fun _ _ ⟨_, _, _, _, _, _, _, _, _, _, _, _, _, _, _, _, w⟩ => w.elim, PassesOwn.never⟩
  refine ⟨A.N, ?_, rfl, A.fs, A.ps, A.pn, A.gn, A.cs, A.dn, k, fun _ => ⟨k, q.calm, q.room⟩, A.md, A.K⟩
  show relS scope X.env.scope = relS scope c.sc
  rw [A.sc]
/-- the same where no error is wished for -/
theorem Cag.wf (A : Cag c T n X W) : Cag c T n X WF := by
  have k : Cok T n X WF := ⟨A.ok.prog, A.ok.w, A.ok.gw, A.ok.K, A.ok.mg, A.ok.base, A.ok.nd, A.ok.un, fun _ _ ⟨_, _, _, _, _, _, _, _, _, _, _, _, _, _, _, _, w⟩ => w.elim, A.ok.pass⟩
  exact ⟨A.N, A.sc, A.fn, A.fs, A.ps, A.pn, A.gn, A.cs, A.dn, k, fun h => ⟨k, (A.cool h).calm, (A.cool h).room⟩, A.md, A.K⟩
theorem both {x : Expr} {e : E} {tst : Bool} (A : Cag c T n X W) (h : PE X x (tE T n W e)) (hp : plainT x = true) : (tst = false → PE X x (tE T n W e)) ∧ (tst = true → PT X x (tT T n W e)) := ⟨fun _ => h, fun _ => t_truth A.ok h hp⟩
theorem onlyE {x : Expr} {e : E} {tst : Bool} (ht : (!tst) = true) (h : PE X x (tE T n W e)) : (tst = false → PE X x (tE T n W e)) ∧ (tst = true → PT X x (tT T n W e)) := ⟨fun _ => h, fun z => by rw [z] at ht; cases ht⟩
theorem noSet_ok {x : Expr} (h : noSet x = true) (env : PySem.Env) : ∀ v, foldedSetIterable x env v = pure v := by
  cases x <;> first | (intro _; rfl) | cases h
theorem base_ok {x : Expr} (h : noCall x = true) (m : Str) (env : PySem.Env) : attributeBase x m env (eval x env) = eval x env := by
  cases x <;> first | rfl | cases h
theorem e_gv {i : Nat} {y : Str} {pos : Pos} (A : Cag c T n X W) (h : c.gn[i]? = some y) (hg : Gl X y) (hd : (y == ("__debug__" : Str)) = false) : PE X (.Name y pos) (tE T n W (.gv i)) := by
  obtain ⟨v, u, pv, h1, h2, h3, h4⟩ := A.md.gv i y (by rw [A.gn]; exact h)
  exact e_const (pe_glob hg (by rw [A.ok.mg]; exact h2) h3 hd) (fun env st => by rw [evE, h1]; rfl) h4
theorem tab_of (A : Cag c T n X W) {d : Nat} {z : Str} {pos : Pos} (h1 : c.gn.length ≤ d) (h2 : c.dn[d - c.gn.length]? = some z) (hg : Gl X z) (hd : (z == ("__debug__" : Str)) = false) : ∃ (a : Addr) (tb : List PV), Tab T X d a tb ∧ PE X (.Name z pos) (tC (.ref a)) := by
  obtain ⟨a, tb, q1, q2, q3, q4⟩ := A.md.dt (d - c.gn.length) z (by rw [A.dn]; exact h2)
  refine ⟨a, tb, ⟨?_, ?_, q4⟩, pe_glob hg (by rw [A.ok.mg]; exact q2) rfl hd⟩
  · have e : T.gn.length + (d - c.gn.length) = d := by rw [A.gn]; omega
    rw [e] at q1; exact q1
  · obtain ⟨es, m, kd⟩ := q3
    exact ⟨es, m, by rw [A.ok.K, A.ok.w]; exact kd⟩
theorem e_fnv {i : Nat} {y : Str} {pos : Pos} (A : Cag c T n X W) (hh : c.hot = false) (h : c.fs[i]? = some y) (hg : Gl X y) (hd : (y == ("__debug__" : Str)) = false) : PE X (.Name y pos) (tE T n W (.fnv i)) := by
  obtain ⟨f, h1, rfl⟩ := fs_of A h
  obtain ⟨h2, _⟩ := (A.K hh).fn i f h1
  exact e_const (x := .fn i) (v := .ref (T.G.fa i)) (pe_glob hg (by rw [A.ok.mg]; exact h2) rfl hd) (fun env st => by rw [evE]) fun μ H => (show V.ref (T.G.fa i) = V.ref (T.G.fa i) from rfl)
end
theorem star_of {e : E} (h : isStar e = false) : ∀ y, e ≠ .star y := fun y z => by rw [z] at h; cases h
theorem empty_of {α : Type} {xs : List α} (h : xs.isEmpty = true) : xs = [] := List.isEmpty_iff.mp h
theorem pyTys_ok {ts : List Ty} {w : Expr} {sc : Scope} (h : pyTys ts w sc = true) : (∃ t p, ts = [t] ∧ w = .Name (tyN t) p ∧ glB sc (tyN t) = true) ∨ ∃ t u p p2 k p3, ts = [t, u] ∧ w = .Tuple [.Name (tyN t) p, .Name (tyN u) p2] k p3 ∧ glB sc (tyN t) = true ∧ glB sc (tyN u) = true := by
  have one : ∀ t x, pyTy t x sc = true → ∃ p, x = .Name (tyN t) p ∧ glB sc (tyN t) = true := fun t x h => by
    unfold pyTy at h
    split at h
    · rw [Bool.and_eq_true, decide_eq_true_eq] at h
      obtain ⟨rfl, h2⟩ := h
      exact ⟨_, rfl, h2⟩
    · cases h
  unfold pyTys at h
  split at h
  · obtain ⟨p, rfl, h2⟩ := one _ _ h
    exact .inl ⟨_, p, rfl, rfl, h2⟩
  · split at h
    · rw [Bool.and_eq_true] at h
      obtain ⟨p, rfl, h2⟩ := one _ _ h.1
      obtain ⟨p2, rfl, h3⟩ := one _ _ h.2
      exact .inr ⟨_, _, p, p2, _, _, rfl, rfl, h2, h3⟩
    · cases h
  · cases h
theorem evEs_count {T : Tp} {n : Nat} {c : Cc} : ∀ {es : Es} {xs : List Expr} {env : Env} {st st' : Sto} {us : List PV}, cA c es xs = true → xs.all notStar = true → evEs (T.cl n) T.gs T.ar es env st = .ok us st' → us.length = xs.length
  | .nil, xs, env, st, st', us, h, _, hu => by
    unfold cA at h
    rw [empty_of h]
    rw [evEs] at hu; cases hu; rfl
  | .cons e r, xs, env, st, st', us, h, hs, hu => by
    unfold cA at h
    split at h
    · cases h
    · rw [Bool.and_eq_true] at h
      rw [List.all_cons, Bool.and_eq_true] at hs
      have hne : ∀ y, e ≠ .star y := fun y z => by
        rw [z] at h
        have h1 := h.1
        dsimp only at h1
        split at h1
        · cases hs.1
        · cases h1
      rw [evEs.eq_3 _ _ _ _ _ _ _ (fun y z => hne y z)] at hu
      obtain ⟨x, st1, _, hu⟩ := R.bind_ok hu
      obtain ⟨ys, st2, h2, hu⟩ := R.bind_ok hu
      cases hu
      rw [List.length_cons, List.length_cons, evEs_count h.2 hs.2 h2]
theorem evEs_countK {T : Tp} {n : Nat} {c : Cc} : ∀ {es : Es} {xs : List Keyword} {env : Env} {st st' : Sto} {us : List PV}, cK c es xs = true → evEs (T.cl n) T.gs T.ar es env st = .ok us st' → us.length = xs.length
  | .nil, xs, env, st, st', us, h, hu => by
    unfold cK at h
    rw [empty_of h]
    rw [evEs] at hu; cases hu; rfl
  | .cons e r, xs, env, st, st', us, h, hu => by
    unfold cK at h
    split at h
    · cases h
    · simp only [Bool.and_eq_true, Bool.not_eq_true'] at h
      rw [evEs.eq_3 _ _ _ _ _ _ _ (fun y z => star_of h.1.1 y z)] at hu
      obtain ⟨x, st1, _, hu⟩ := R.bind_ok hu
      obtain ⟨ys, st2, h2, hu⟩ := R.bind_ok hu
      cases hu
      rw [List.length_cons, List.length_cons, evEs_countK h.2 h2]
theorem cA_head {c : Cc} {e : E} {r : Es} {x : Expr} {xs : List Expr} (hs : isStar e = false) (h : cA c (.cons e r) (x :: xs) = true) : cX c false e x = true := by
  unfold cA at h
  rw [Bool.and_eq_true] at h
  have h1 := h.1
  cases e <;> first | (cases hs; done) | (rw [Bool.and_eq_true] at h1; exact h1.2)
theorem cA_tail {c : Cc} {e : E} {r : Es} {x : Expr} {xs : List Expr} (h : cA c (.cons e r) (x :: xs) = true) : cA c r xs = true := by
  unfold cA at h
  rw [Bool.and_eq_true] at h
  exact h.2
mutual
theorem cX_ok {T : Tp} {n : Nat} : ∀ (e : E) (c : Cc) (tst : Bool) (x : Expr) (X : Cx) (W : WX), Cag c T n X W → cX c tst e x = true → (tst = false → PE X x (tE T n W e)) ∧ (tst = true → PT X x (tT T n W e))
  | .var i, c, tst, x, X, W, A, h => by
    unfold cX at h
    split at h
    · simp only [Bool.and_eq_true, decide_eq_true_eq] at h
      exact both A (e_var (by rw [A.N]; exact h.1.1) (vis_of A h.1.2) (nodbg1 h.2) (nodbg2 h.2)) rfl
    · cases h
  | .int i, c, tst, x, X, W, A, h => by
    unfold cX at h
    split at h
    · simp only [Bool.and_eq_true, decide_eq_true_eq] at h
      obtain ⟨h1, rfl⟩ := h
      exact onlyE h1 (e_const (x := .int i) pe_int (fun env st => by rw [evE]) fun μ H => by rw [Rep])
    · cases h
  | .str z, c, tst, x, X, W, A, h => by
    unfold cX at h
    split at h
    · simp only [Bool.and_eq_true, decide_eq_true_eq] at h
      obtain ⟨h1, rfl⟩ := h
      exact onlyE h1 (e_const (x := .str z) pe_str (fun env st => by rw [evE]) fun μ H => by rw [Rep])
    · cases h
  | .bl b, c, tst, x, X, W, A, h => by
    unfold cX at h
    split at h
    · simp only [Bool.and_eq_true, decide_eq_true_eq] at h
      subst h
      exact ⟨fun _ => e_const (x := .bl b) pe_bl (fun env st => by rw [evE]) fun μ H => by rw [Rep], fun _ => t_lit⟩
    · cases h
  | .non, c, tst, x, X, W, A, h => by
    unfold cX at h
    split at h
    · exact onlyE h (e_const (x := .non) pe_non (fun env st => by rw [evE]) fun μ H => by rw [Rep])
    · cases h
  | .gv i, c, tst, x, X, W, A, h => by
    unfold cX at h
    split at h
    · simp only [Bool.and_eq_true, decide_eq_true_eq] at h
      exact both A (e_gv A h.1.1 (gl_of A h.1.2) (nodbg1 h.2)) rfl
    · cases h
  | .fnv i, c, tst, x, X, W, A, h => by
    unfold cX at h
    split at h
    · simp only [Bool.and_eq_true, decide_eq_true_eq, Bool.not_eq_true'] at h
      exact both A (e_fnv A h.1.1.1 h.1.1.2 (gl_of A h.1.2) (nodbg1 h.2)) rfl
    · cases h
  | .bin op m a b, c, tst, x, X, W, A, h => by
    unfold cX at h
    split at h
    · simp only [Bool.and_eq_true, decide_eq_true_eq] at h
      obtain ⟨⟨⟨h1, rfl⟩, h2⟩, h3⟩ := h
      exact onlyE h1 (e_bin A.ok ((cX_ok a c false _ X W A h2).1 rfl) ((cX_ok b c false _ X W A h3).1 rfl))
    · cases h
  | .neg a, c, tst, x, X, W, A, h => by
    unfold cX at h
    split at h
    · simp only [Bool.and_eq_true] at h
      exact onlyE h.1 (e_neg ((cX_ok a c false _ X W A h.2).1 rfl))
    · cases h
  | .cmp op a b, c, tst, x, X, W, A, h => by
    unfold cX at h
    split at h
    · simp only [Bool.and_eq_true, decide_eq_true_eq, Bool.not_eq_true'] at h
      obtain ⟨⟨⟨rfl, h1⟩, h2⟩, h3⟩ := h
      have pa := (cX_ok a c false _ X W A h2).1 rfl
      have pb := (cX_ok b c false _ X W A h3).1 rfl
      exact ⟨fun _ => e_cmp A.ok pa pb h1, fun _ => t_cmp A.ok pa pb h1⟩
    · cases h
  | .chain op op' a b d, c, tst, x, X, W, A, h => by
    unfold cX at h
    split at h
    · simp only [Bool.and_eq_true, decide_eq_true_eq, Bool.not_eq_true'] at h
      obtain ⟨⟨⟨⟨⟨rfl, rfl⟩, h1⟩, h2⟩, h3⟩, h4⟩ := h
      have pa := (cX_ok a c false _ X W A h2).1 rfl
      have pb := (cX_ok b c false _ X W A h3).1 rfl
      have pd := (cX_ok d c false _ X W A h4).1 rfl
      exact ⟨fun _ => e_chain A.ok pa pb pd h1, fun _ => t_chain A.ok pa pb pd h1⟩
    · cases h
  | .isn g a, c, tst, x, X, W, A, h => by
    unfold cX at h
    split at h
    · simp only [Bool.and_eq_true, decide_eq_true_eq] at h
      obtain ⟨rfl, h2⟩ := h
      have pa := (cX_ok a c false _ X W A h2).1 rfl
      cases g with
      | true => exact ⟨fun _ => e_isnt pa, fun _ => t_isnt pa⟩
      | false => exact ⟨fun _ => e_is pa, fun _ => t_is pa⟩
    · cases h
  | .and_ es, c, tst, x, X, W, A, h => by
    unfold cX at h
    split at h
    · have q := cB_ok es c tst _ X W A h
      exact ⟨fun z => e_and ((q.1 z).1 _), fun z => t_and ((q.2 z).1 _)⟩
    · cases h
  | .or_ es, c, tst, x, X, W, A, h => by
    unfold cX at h
    split at h
    · have q := cB_ok es c tst _ X W A h
      exact ⟨fun z => e_or ((q.1 z).2 _), fun z => t_or ((q.2 z).2 _)⟩
    · cases h
  | .not_ a, c, tst, x, X, W, A, h => by
    unfold cX at h
    split at h
    · have q := cX_ok a c tst _ X W A h
      exact ⟨fun z => e_not A.ok (q.1 z), fun z => t_not (q.2 z)⟩
    · cases h
  | .ite d a b, c, tst, x, X, W, A, h => by
    unfold cX at h
    split at h
    · simp only [Bool.and_eq_true] at h
      obtain ⟨⟨⟨h1, h2⟩, h3⟩, h4⟩ := h
      exact onlyE h1 (e_ite ((cX_ok d c true _ X W A h2).2 rfl) ((cX_ok a c false _ X W A h3).1 rfl) ((cX_ok b c false _ X W A h4).1 rfl))
    · cases h
  | .tup es, c, tst, x, X, W, A, h => by
    unfold cX at h
    split at h
    · simp only [Bool.and_eq_true] at h
      exact onlyE h.1 (e_tup (cA_ok es c _ X W A h.2))
    · cases h
  | .lst m es, c, tst, x, X, W, A, h => by
    unfold cX at h
    split at h
    · simp only [Bool.and_eq_true] at h
      exact onlyE h.1 (e_lst (cA_ok es c _ X W A h.2))
    · cases h
  | .star e, c, tst, x, X, W, A, h => by unfold cX at h; cases h
  | .idx a b, c, tst, x, X, W, A, h => by
    unfold cX at h
    split at h
    · simp only [Bool.and_eq_true] at h
      exact both A (e_idx A.ok ((cX_ok a c false _ X W A h.1.2).1 rfl) ((cX_ok b c false _ X W A h.2).1 rfl) h.1.1) rfl
    · cases h
  | .slc m a lo hi, c, tst, x, X, W, A, h => by
    unfold cX at h
    split at h
    · simp only [Bool.and_eq_true] at h
      exact both A (e_slc A.ok ((cX_ok a c false _ X W A h.1.1).1 rfl) (cO_ok lo c _ X W A h.1.2) (cO_ok hi c _ X W A h.2)) rfl
    · cases h
  | .stp m a lo hi sp, c, tst, x, X, W, A, h => by
    unfold cX at h
    split at h
    · simp only [Bool.and_eq_true] at h
      exact both A (e_stp A.ok ((cX_ok a c false _ X W A h.1.1.1).1 rfl) (cO_ok lo c _ X W A h.1.1.2) (cO_ok hi c _ X W A h.1.2) (cO_ok sp c _ X W A h.2) rfl) rfl
    · cases h
  | .call f es, c, tst, x, X, W, A, h => by
    unfold cX at h
    split at h
    · simp only [Bool.and_eq_true, decide_eq_true_eq, Bool.not_eq_true'] at h
      obtain ⟨⟨⟨⟨⟨h1, h2⟩, h3⟩, h4⟩, h5⟩, h6⟩ := h
      obtain ⟨fn, q1, rfl⟩ := fs_of A h2
      have pa := cA_ok es c _ X W A h6
      rename_i xs _
      cases xs with
      | nil =>
        cases es with
        | nil => exact both A (e_call0 (A.K h1) (A.cool h1) q1 (gl_of A h3) (nodbg1 h4)) rfl
        | cons e r => unfold cA at h6; cases h6
      | cons y ys =>
        rw [List.all_cons, Bool.and_eq_true] at h5
        exact both A (e_call (A.K h1) (A.cool h1) q1 (gl_of A h3) (nodbg1 h4) h5.1 h5.2 pa) rfl
    · cases h
  | .callk f es ks kes, c, tst, x, X, W, A, h => by
    unfold cX at h
    split at h
    · simp only [Bool.and_eq_true, decide_eq_true_eq, Bool.not_eq_true'] at h
      obtain ⟨⟨⟨⟨⟨⟨⟨⟨⟨h1, h2⟩, h3⟩, h4⟩, h5⟩, h6⟩, h7⟩, h8⟩, h9⟩, h10⟩ := h
      obtain ⟨fn, q1, rfl⟩ := fs_of A h2
      have hps : c.ps.getD f [] = fn.N.take fn.np := by
        rw [← A.ps, List.getD_eq_getElem?_getD, List.getElem?_map, q1]; rfl
      rw [hps] at h8 h9
      have har : T.ar f = (fn.N.take fn.np).length := by
        have := A.pn fn (List.mem_of_getElem? q1)
        show (match T.fs[f]? with | some g => g.np | none => 0) = _
        rw [q1, List.length_take]
        exact (Nat.min_eq_left this).symm
      refine both A (e_callk (A.K h1) (A.cool h1) q1 (gl_of A h3) (nodbg1 h4) h5 (fun z => ?_) h8 har (fun env st us st' hu => ?_) (fun env st us st' hu => ?_) (cA_ok es c _ X W A h6) (cK_ok kes c _ X W A h7)) rfl
      · rw [z] at h6
        cases es with
        | nil => rfl
        | cons _ _ => unfold cA at h6; cases h6
      · rw [evEs_count h6 h5 hu]; exact h9
      · rw [evEs_countK h7 hu]; exact h10
    · cases h
  | .callv g es, c, tst, x, X, W, A, h => by
    unfold cX at h
    split at h
    · simp only [Bool.and_eq_true, Bool.not_eq_true'] at h
      obtain ⟨⟨⟨⟨h1, h2⟩, h3⟩, h5⟩, h6⟩ := h
      have pg := (cX_ok g c false _ X W A h3).1 rfl
      have pa := cA_ok es c _ X W A h6
      rename_i xs _
      cases xs with
      | nil =>
        cases es with
        | nil => exact both A (e_callv0 (A.K h1) (A.cool h1) h2 pg) rfl
        | cons e r => unfold cA at h6; cases h6
      | cons y ys =>
        rw [List.all_cons, Bool.and_eq_true] at h5
        have hne : isNilE es = false := by
          cases es with
          | nil => unfold cA at h6; cases h6
          | cons _ _ => rfl
        exact both A (e_callv (A.K h1) (A.cool h1) hne h2 pg h5.1 h5.2 pa) rfl
    · cases h
  | .prim p m es, c, tst, x, X, W, A, h => by
    unfold cX at h
    split at h
    · simp only [Bool.and_eq_true, decide_eq_true_eq, Bool.not_eq_true'] at h
      obtain ⟨⟨⟨⟨⟨h1, rfl⟩, h3⟩, h4⟩, h5⟩, h6⟩ := h
      exact both A (e_prim A.md (A.cool h1) (gl_of A h3) h4 h5 (cA_ok es c _ X W A h6)) rfl
    · cases h
  | .sset m a, c, tst, x, X, W, A, h => by
    unfold cX at h
    split at h
    · simp only [Bool.and_eq_true, decide_eq_true_eq, Bool.not_eq_true'] at h
      obtain ⟨⟨⟨⟨⟨⟨h1, rfl⟩, rfl⟩, h4⟩, h5⟩, h6⟩, h7⟩ := h
      exact both A (e_sset A.md (A.cool h1) (gl_of A h4) (gl_of A h5) h6 ((cX_ok a c false _ X W A h7).1 rfl)) rfl
    · cases h
  | .lens a, c, tst, x, X, W, A, h => by
    unfold cX at h
    split at h
    · simp only [Bool.and_eq_true, decide_eq_true_eq, Bool.not_eq_true'] at h
      obtain ⟨⟨⟨⟨⟨⟨h1, rfl⟩, rfl⟩, h4⟩, h5⟩, h6⟩, h7⟩ := h
      exact both A (e_lens A.md (A.cool h1) (gl_of A h4) (gl_of A h5) h6 ((cX_ok a c false _ X W A h7).1 rfl)) rfl
    · cases h
  | .isi a ts, c, tst, x, X, W, A, h => by
    unfold cX at h
    split at h
    · simp only [Bool.and_eq_true, decide_eq_true_eq] at h
      obtain ⟨⟨⟨⟨rfl, h2⟩, h3⟩, h4⟩, h5⟩ := h
      have pa := (cX_ok a c false _ X W A h5).1 rfl
      rcases pyTys_ok h4 with ⟨t, p, rfl, rfl, q⟩ | ⟨t, u, p, p2, k, p3, rfl, rfl, q, q2⟩
      · exact both A (e_isi1 A.md A.ok t (gl_of A h2) (gl_of A q) h3 pa) rfl
      · exact both A (e_isi2 A.md A.ok t u (gl_of A h2) (gl_of A q) (gl_of A q2) h3 pa) rfl
    · cases h
  | .isx _ _, c, tst, x, X, W, A, h => by unfold cX at h; cases h
  | .comp m own t it cond elt, c, tst, x, X, W, A, h => by
    unfold cX at h
    split at h
    · simp only [Bool.and_eq_true, Bool.not_eq_true', List.all_eq_true, decide_eq_true_eq] at h
      obtain ⟨⟨⟨⟨⟨⟨⟨⟨⟨h1, h2⟩, h3⟩, h4⟩, h5⟩, h6⟩, h7⟩, h8⟩, h9⟩, h10⟩ := h
      refine onlyE (by rw [h1]; rfl) (e_comp (A.cool h2) (cI_ok it c _ _ X W A h7) ?_ h4 h5 (fun s H C cl fp => (cG_ok t (c.blk _) _ _ (blk_of A h2 s H _ C cl fp) h8).2 h4) (fun s H C cl fp => cD_ok cond (c.blk _) _ _ WF (blk_of A h2 s H _ C cl fp) h9) (fun s H C cl fp => (cX_ok elt (c.blk _) false _ _ WF (blk_of A h2 s H _ C cl fp) h10).1 rfl) (noSet_ok h6 _))
      rw [A.N, A.sc]
      exact blkOk_by h3
    · cases h
  | .comp2 _ _ _ _ _ _ _ _ _ _, c, tst, x, X, W, A, h => by unfold cX at h; cases h
  | .meth k o es, c, tst, x, X, W, A, h => by
    unfold cX at h
    split at h
    · simp only [Bool.and_eq_true, decide_eq_true_eq] at h
      obtain ⟨⟨⟨⟨h1, h2⟩, h3⟩, h4⟩, h5⟩ := h
      have po := (cX_ok o c false _ X W A h3).1 rfl
      have pa := cA_ok es c _ X W A h4
      have hl : ∀ {a b : Nat}, a = b → (a == b) = true := fun e => by rw [e]; exact beq_self_eq_true _
      split at h5
      · simp only [Bool.and_eq_true, decide_eq_true_eq] at h5
        obtain ⟨rfl, h6⟩ := h5
        exact both A (e_append A.ok po pa h6 (base_ok h2 _ _) (hl h1)) rfl
      · simp only [Bool.and_eq_true, decide_eq_true_eq] at h5
        obtain ⟨rfl, h6⟩ := h5
        exact both A (e_extend A.ok po pa h6 (base_ok h2 _ _) (hl h1)) rfl
      · simp only [Bool.and_eq_true, decide_eq_true_eq] at h5
        obtain ⟨rfl, h6⟩ := h5
        exact both A (e_popAt A.ok po pa h6 (base_ok h2 _ _) (hl h1)) rfl
      · simp only [Bool.and_eq_true, decide_eq_true_eq] at h5
        obtain ⟨rfl, h6⟩ := h5
        exact both A (e_index A.ok po pa h6 (base_ok h2 _ _) (hl h1)) rfl
      · simp only [Bool.and_eq_true, decide_eq_true_eq] at h5
        obtain ⟨⟨rfl, h6⟩, h7⟩ := h5
        exact both A (e_insert A.ok po pa h6 h7 (base_ok h2 _ _) (hl h1)) rfl
      · simp only [Bool.and_eq_true, decide_eq_true_eq] at h5
        obtain ⟨rfl, h6⟩ := h5
        cases es with
        | nil => exact both A (e_pop A.ok po (base_ok h2 _ _) (hl h1)) rfl
        | cons _ _ => cases h6
      · cases h5
    · cases h
  | .smeth k m o es, c, tst, x, X, W, A, h => by
    unfold cX at h
    split at h
    · rename_i e
      simp only [Bool.and_eq_true, decide_eq_true_eq, Bool.not_eq_true'] at h
      obtain ⟨⟨⟨⟨⟨⟨h1, h2⟩, h3⟩, h4⟩, h5⟩, h6⟩, h7⟩ := h
      have po := (cX_ok o c false _ X W A h3).1 rfl
      have pa := (cX_ok e c false _ X W A h6).1 rfl
      have hl : ∀ {a b : Nat}, a = b → (a == b) = true := fun e => by rw [e]; exact beq_self_eq_true _
      subst h7
      cases k with
      | split => exact both A (e_split (star_of h4) po pa h5 (base_ok h2 _ _) (hl h1)) rfl
      | join => exact both A (e_join A.ok (star_of h4) po pa h5 (base_ok h2 _ _) (hl h1)) rfl
      | index => exact both A (e_sindex (star_of h4) po pa h5 (base_ok h2 _ _) (hl h1)) rfl
    · cases h
  | .hole, c, tst, x, X, W, A, h => ⟨fun _ => e_hole, fun _ => t_hole⟩
  | .ind ng d a, c, tst, x, X, W, A, h => by
    unfold cX at h
    split at h
    · simp only [Bool.and_eq_true, decide_eq_true_eq, Bool.not_eq_true'] at h
      obtain ⟨⟨⟨⟨⟨⟨rfl, h1⟩, h2⟩, h3⟩, h4⟩, h5⟩, h6⟩ := h
      have pa := (cX_ok a c false _ X W A h6).1 rfl
      obtain ⟨ad, tb, D, pe⟩ := tab_of A h1 h2 (gl_of A h3) (nodbg1 h4)
      exact ⟨fun _ => e_ind A.ok D pa pe h5, fun _ => t_ind A.ok D pa pe h5⟩
    · cases h
  | .idxd d a, c, tst, x, X, W, A, h => by
    unfold cX at h
    split at h
    · simp only [Bool.and_eq_true, decide_eq_true_eq] at h
      obtain ⟨⟨⟨⟨⟨h0, h1⟩, h2⟩, h3⟩, h4⟩, h5⟩ := h
      obtain ⟨ad, tb, D, pe⟩ := tab_of A h1 h2 (gl_of A h3) (nodbg1 h4)
      exact both A (e_idxd A.ok D pe ((cX_ok a c false _ X W A h5).1 rfl) h0) rfl
    · cases h
  | .isb ng b a, c, tst, x, X, W, A, h => by
    unfold cX at h
    split at h
    · simp only [Bool.and_eq_true, decide_eq_true_eq, Bool.not_eq_true'] at h
      obtain ⟨⟨⟨rfl, rfl⟩, h2⟩, h3⟩ := h
      have pa := (cX_ok a c false _ X W A h3).1 rfl
      exact ⟨fun _ => e_isb pa h2, fun _ => t_isb pa h2⟩
    · cases h
  | .dnew m, c, tst, x, X, W, A, h => by
    unfold cX at h
    split at h
    · exact onlyE h (e_dnew A.ok)
    · cases h
  | .ddisp es, c, tst, x, X, W, A, h => by
    unfold cX at h
    split at h
    · simp only [Bool.and_eq_true, decide_eq_true_eq, Bool.not_eq_true'] at h
      obtain ⟨⟨⟨⟨⟨h1, h2⟩, h3⟩, h4⟩, h5⟩, h6⟩ := h
      obtain ⟨q1, q2⟩ := cPk_ok es c _ _ X W A h2
      exact onlyE (by rw [h1]; rfl) (e_ddisp A.ok q1 (q2 _) h6 h3 (fun z => by rw [z] at h5; cases h5) h4)
    · cases h
  | .dget o es, c, tst, x, X, W, A, h => by
    unfold cX at h
    split at h
    · simp only [Bool.and_eq_true, decide_eq_true_eq] at h
      obtain ⟨⟨⟨⟨⟨h1, h2⟩, h3⟩, rfl⟩, h5⟩, h6⟩ := h
      have po := (cX_ok o c false _ X W A h3).1 rfl
      have hl : ∀ {a b : Nat}, a = b → (a == b) = true := fun e => by rw [e]; exact beq_self_eq_true _
      split at h6
      · rename_i e a
        simp only [Bool.and_eq_true, Bool.not_eq_true'] at h6
        exact both A (e_get1 A.ok (star_of h6.1) po ((cX_ok e c false a X W A (cA_head h6.1 h5)).1 rfl) h6.2 (base_ok h2 _ _) (hl h1)) rfl
      · rename_i e f a b
        simp only [Bool.and_eq_true, Bool.not_eq_true'] at h6
        obtain ⟨⟨⟨g1, g2⟩, g3⟩, g4⟩ := h6
        exact both A (e_get2 A.ok (star_of g1) (star_of g2) po ((cX_ok e c false a X W A (cA_head g1 h5)).1 rfl) ((cX_ok f c false b X W A (cA_head g2 (cA_tail h5))).1 rfl) g3 g4 (base_ok h2 _ _) (hl h1)) rfl
      · cases h6
    · cases h
theorem cPk_ok {T : Tp} {n : Nat} : ∀ (es : Es) (c : Cc) (ks : List (Option Expr)) (vs : List Expr) (X : Cx) (W : WX), Cag c T n X W → cPk c es ks vs = true → noStarP es = true ∧ ∀ pos, PPs X pos ks vs (prs T n W es)
  | .nil, c, ks, vs, X, W, A, h => by
    unfold cPk at h
    rw [Bool.and_eq_true] at h
    rw [empty_of h.1, empty_of h.2]
    exact ⟨rfl, fun _ => pps_nil⟩
  | .cons k .nil, c, ks, vs, X, W, A, h => by
    unfold cPk at h
    split at h
    · rw [Bool.and_eq_true] at h
      have z := h.2
      unfold cPv at z
      cases z
    · cases h
  | .cons k (.cons v r), c, ks, vs, X, W, A, h => by
    unfold cPk at h
    split at h
    · rename_i a ks'
      simp only [Bool.and_eq_true, Bool.not_eq_true'] at h
      obtain ⟨⟨h1, h2⟩, h3⟩ := h
      unfold cPv at h3
      split at h3
      · rename_i b vs'
        simp only [Bool.and_eq_true, Bool.not_eq_true'] at h3
        obtain ⟨⟨h4, h5⟩, h6⟩ := h3
        obtain ⟨q1, q2⟩ := cPk_ok r c _ _ X W A h6
        refine ⟨?_, fun pos => pps_cons ((cX_ok k c false _ X W A h2).1 rfl) ((cX_ok v c false _ X W A h5).1 rfl) (q2 pos)⟩
        unfold noStarP
        rw [q1, Bool.and_true, Bool.and_eq_true]
        refine ⟨?_, ?_⟩
        · cases k <;> first | rfl | cases h1
        · cases v <;> first | rfl | cases h4
      · cases h3
    · cases h
theorem cA_ok {T : Tp} {n : Nat} : ∀ (es : Es) (c : Cc) (xs : List Expr) (X : Cx) (W : WX), Cag c T n X W → cA c es xs = true → PA X xs (tEs T n W es)
  | .nil, c, xs, X, W, A, h => by
    unfold cA at h
    rw [empty_of h]; exact a_nil
  | .cons e r, c, xs, X, W, A, h => by
    unfold cA at h
    split at h
    · cases h
    · rw [Bool.and_eq_true] at h
      obtain ⟨h1, h2⟩ := h
      have pr := cA_ok r c _ X W A h2
      cases e with
      | star e' =>
        dsimp only at h1
        split at h1
        · exact a_star A.ok ((cX_ok e' c false _ X W A h1).1 rfl) pr
        · cases h1
      | _ =>
        simp only [Bool.and_eq_true, Bool.not_eq_true'] at h1
        exact a_cons (star_of h1.1.2) h1.1.1 ((cX_ok _ c false _ X W A h1.2).1 rfl) pr
theorem cK_ok {T : Tp} {n : Nat} : ∀ (es : Es) (c : Cc) (xs : List Keyword) (X : Cx) (W : WX), Cag c T n X W → cK c es xs = true → PK X xs (tEs T n W es)
  | .nil, c, xs, X, W, A, h => by
    unfold cK at h
    rw [empty_of h]; exact k_nil
  | .cons e r, c, xs, X, W, A, h => by
    unfold cK at h
    split at h
    · cases h
    · simp only [Bool.and_eq_true, Bool.not_eq_true'] at h
      exact k_cons (star_of h.1.1) ((cX_ok e c false _ X W A h.1.2).1 rfl) (cK_ok r c _ X W A h.2)
theorem cB_ok {T : Tp} {n : Nat} : ∀ (es : Es) (c : Cc) (tst : Bool) (xs : List Expr) (X : Cx) (W : WX), Cag c T n X W → cB c tst es xs = true →
    (tst = false → (∀ pos, PE X (.BoolOp .And xs pos) (tAs T n W es)) ∧ ∀ pos, PE X (.BoolOp .Or xs pos) (tOs T n W es)) ∧ (tst = true → (∀ pos, PW X (.BoolOp .And xs pos) (tTA T n W es)) ∧ ∀ pos, PW X (.BoolOp .Or xs pos) (tTO T n W es))
  | .nil, c, tst, xs, X, W, A, h => by unfold cB at h; cases h
  | .cons e r, c, tst, xs, X, W, A, h => by
    unfold cB at h
    split at h
    · cases h
    · rename_i x ys
      rw [Bool.and_eq_true] at h
      obtain ⟨h1, h2⟩ := h
      have pe := cX_ok e c tst x X W A h1
      cases r with
      | nil =>
        rw [empty_of h2]
        exact ⟨fun z => ⟨fun _ => e_and1 (pe.1 z), fun _ => e_or1 (pe.1 z)⟩, fun z => ⟨fun _ => t_and1 (pe.2 z), fun _ => t_or1 (pe.2 z)⟩⟩
      | cons e' r' =>
        have pr := cB_ok (.cons e' r') c tst ys X W A h2
        cases ys with
        | nil => unfold cB at h2; cases h2
        | cons y zs => exact ⟨fun z => ⟨fun p => e_and2 A.ok (pe.1 z) ((pr.1 z).1 p), fun p => e_or2 A.ok (pe.1 z) ((pr.1 z).2 p)⟩, fun z => ⟨fun p => t_and2 (pe.2 z) ((pr.2 z).1 p), fun p => t_or2 (pe.2 z) ((pr.2 z).2 p)⟩⟩
theorem cO_ok {T : Tp} {n : Nat} : ∀ (es : Es) (c : Cc) (x : Option Expr) (X : Cx) (W : WX), Cag c T n X W → cO c es x = true → PO X x (tO T n W es)
  | .nil, c, x, X, W, A, h => by
    unfold cO at h
    cases x with
    | none => exact o_none
    | some _ => cases h
  | .cons e r, c, x, X, W, A, h => by
    unfold cO at h
    split at h
    · exact o_some ((cX_ok e c false _ X W A h).1 rfl)
    · cases h
theorem cD_ok {T : Tp} {n : Nat} : ∀ (es : Es) (c : Cc) (xs : List Expr) (X : Cx) (W : WX), Cag c T n X W → cD c es xs = true → PTs X xs (tCd T n W es)
  | .nil, c, xs, X, W, A, h => by
    unfold cD at h
    rw [empty_of h]; exact cd_nil
  | .cons e r, c, xs, X, W, A, h => by
    unfold cD at h
    split at h
    · exact cd_one ((cX_ok e c true _ X W A h).2 rfl)
    · cases h
theorem cI_ok {T : Tp} {n : Nat} : ∀ (it : Ev.It) (c : Cc) (tg x : Expr) (X : Cx) (W : WX), Cag c T n X W → cI c tg it x = true → PI X tg x (tI T n W it)
  | .e a, c, tg, x, X, W, A, h => by
    unfold cI at h
    exact it_e A.ok ((cX_ok a c false _ X W A h).1 rfl)
  | .range es, c, tg, x, X, W, A, h => by
    unfold cI at h
    split at h
    · simp only [Bool.and_eq_true, decide_eq_true_eq] at h
      obtain ⟨⟨⟨⟨rfl, h2⟩, h3⟩, h4⟩, h5⟩ := h
      have pa := cA_ok es c _ X W A h3
      split at h5
      · rw [Bool.not_eq_true'] at h5
        rw [List.all_cons, Bool.and_eq_true] at h4
        exact it_range1 A.md A.ok (gl_of A h2) (star_of h5) h4.1 pa
      · rw [Bool.and_eq_true, Bool.not_eq_true', Bool.not_eq_true'] at h5
        rw [List.all_cons, List.all_cons, Bool.and_eq_true, Bool.and_eq_true] at h4
        exact it_range2 A.md A.ok (gl_of A h2) (star_of h5.1) (star_of h5.2) h4.1 h4.2.1 pa
      · simp only [Bool.and_eq_true, Bool.not_eq_true'] at h5
        rw [List.all_cons, List.all_cons, List.all_cons, Bool.and_eq_true, Bool.and_eq_true, Bool.and_eq_true] at h4
        exact it_range3 A.md A.ok (gl_of A h2) (star_of h5.1.1) (star_of h5.1.2) (star_of h5.2) h4.1 h4.2.1 h4.2.2.1 pa
      · cases h5
    · cases h
  | .zip a b, c, tg, x, X, W, A, h => by
    unfold cI at h
    split at h
    · simp only [Bool.and_eq_true, decide_eq_true_eq] at h
      obtain ⟨⟨⟨⟨⟨rfl, h2⟩, h3⟩, h4⟩, h5⟩, h6⟩ := h
      exact it_zip A.md A.ok (gl_of A h2) h3 h4 ((cX_ok a c false _ X W A h5).1 rfl) ((cX_ok b c false _ X W A h6).1 rfl)
    · cases h
  | .enum a, c, tg, x, X, W, A, h => by
    unfold cI at h
    split at h
    · simp only [Bool.and_eq_true, decide_eq_true_eq] at h
      obtain ⟨⟨⟨rfl, h2⟩, h3⟩, h4⟩ := h
      exact it_enum A.md A.ok (gl_of A h2) h3 ((cX_ok a c false _ X W A h4).1 rfl)
    · cases h
theorem cG_ok {T : Tp} {n : Nat} : ∀ (t : Tg) (c : Cc) (x : Expr) (X : Cx), Cag c T n X WF → cG c t x = true → PG X x (gQ T n t) ∧ (t.pure = true → PG X x (gP T n t))
  | .name i, c, x, X, A, h => by
    unfold cG at h
    split at h
    · simp only [Bool.and_eq_true, decide_eq_true_eq] at h
      have p := g_name (T := T) (n := n) (i := i) (pos := by assumption) A.ok.nd (by rw [A.N]; exact h.1.1) (loc_of A h.1.2) (st_of A h.2)
      exact ⟨q_of rfl p, fun _ => p⟩
    · cases h
  | .tup ts, c, x, X, A, h => by
    unfold cG at h
    split at h
    · simp only [Bool.and_eq_true, decide_eq_true_eq, Bool.not_eq_true'] at h
      obtain ⟨⟨⟨h0, h1⟩, h2⟩, h3⟩ := h
      have q := cGs_ok ts c _ X A h3
      exact ⟨q_tup A.ok.K (A.cool h0).calm q.1 h1 h2, fun hp => g_tup A.ok.K (A.cool h0).calm (q.2 (by rw [Tg.pure] at hp; exact hp)) h1 h2⟩
    · cases h
  | .sub o i, c, x, X, A, h => by
    unfold cG at h
    split at h
    · simp only [Bool.and_eq_true] at h
      exact ⟨q_sub A.ok ((cX_ok o c false _ X WF A h.1.2).1 rfl) ((cX_ok i c false _ X WF A h.2).1 rfl) h.1.1, fun z => by rw [Tg.pure] at z; cases z⟩
    · cases h
  | .st2 _ _, c, x, X, A, h => by unfold cG at h; cases h
theorem cGs_ok {T : Tp} {n : Nat} : ∀ (t : Tgs) (c : Cc) (xs : List Expr) (X : Cx), Cag c T n X WF → cGs c t xs = true → PGs X xs (gQs T n t) ∧ (t.pure = true → PGs X xs (gPs T n t))
  | .nil, c, xs, X, A, h => by
    unfold cGs at h
    rw [empty_of h]; exact ⟨qs_nil, fun _ => gs_nil⟩
  | .cons t r, c, xs, X, A, h => by
    unfold cGs at h
    split at h
    · cases h
    · rename_i x ys
      rw [Bool.and_eq_true] at h
      have p1 := cG_ok t c x X A h.1
      have p2 := cGs_ok r c ys X A h.2
      have hs : notStar x = true := by
        cases x <;> first | rfl | skip
        have z := h.1
        cases t <;> (unfold cG at z; cases z)
      exact ⟨qs_cons p1.1 p2.1 hs, fun hp => by
        rw [Tgs.pure, Bool.and_eq_true] at hp
        exact gs_cons hp.1 (p1.2 hp.1) (p2.2 hp.2) hs⟩
end
end Ev

/-! EvK3: the look at statements. -/
namespace Ev
open PySem PySem.Spec PyProof.Rows L2
def isStarred : Expr → Bool
  | .Starred .. => true
  | _ => false
def locName (sc : Scope) (line : Nat) : Expr → Option Str
  | .Name id pos => if isLoc sc id && pos.line == line then some id else none
  | _ => none
/-- what the stores' order is: none: not told -/
def swpT (sc : Scope) (ts vs : List Expr) : Option (Option (List Str)) :=
  if !(ts.length == 2 || ts.length == 3) || vs.length != ts.length then some none
  else if vs.any isStarred then some none
  else
    let names := ts.filterMap (locName sc ((ts.head?.map (·.pos.line)).getD 0))
    if names.length != ts.length || names.eraseDups.length != names.length then some none
    else if vs.all (foldedForSure 8) then some none
    else if vs.all (constantsAlone 8) then none
    else some (some names)
def swpN (sc : Scope) (tg v : Expr) : Option (Option (List Str)) := match tg, v with
  | .Tuple ts _ _, .Tuple vs _ _ => swpT sc ts vs
  | .List ts _, .Tuple vs _ _ => swpT sc ts vs
  | _, _ => some none
theorem any_as {f g : Expr → Bool} (h : ∀ x, f x = g x) (vs : List Expr) : vs.any f = vs.any g := by rw [funext h]
theorem fm_as {f g : Expr → Option Str} (h : ∀ x, f x = g x) (vs : List Expr) : vs.filterMap f = vs.filterMap g := by rw [funext h]
theorem kind_is {env : PySem.Env} (y : Str) : (env.kindOf y == some .local) = isLoc env.scope y := by
  unfold isLoc Env.kindOf
  cases q : env.scope.names.lookup y with
  | none => rfl
  | some k => cases k <;> rfl
theorem swp_ok {env : PySem.Env} {tg v : Expr} {r : Option (List Str)} (hk : env.scope.kind = .function) (h : swpN env.scope tg v = some r) : swappedStores [tg] v env = pure r := by
  have hb : env.blockKind = .function := by unfold Env.blockKind; rw [hk] <;> rfl
  unfold swpN at h
  split at h
  case h_3 =>
    rename_i h1 h2
    cases h
    unfold swappedStores
    split
    · rename_i heq
      split at heq
      · rename_i e; cases e; exact absurd rfl (h1 _ _ _ _ _ _ rfl)
      · rename_i e; cases e; exact absurd rfl (h2 _ _ _ _ _ rfl)
      · cases heq
    · rfl
  all_goals
    unfold swpT at h
    unfold swappedStores
    simp only [hb, bne_self_eq_false, Bool.or_false]
    split at h
    · rename_i h1; rw [if_pos h1]; cases h; rfl
    · rename_i h1
      rw [if_neg h1, any_as (g := isStarred) (fun x => by cases x <;> rfl)]
      split at h
      · rename_i h2; rw [if_pos h2]; cases h; rfl
      · rename_i h2
        rw [if_neg h2]
        dsimp only at h ⊢
        rw [fm_as (g := locName env.scope _) (fun x => by cases x <;> first | rfl | (simp only [locName, kind_is]; rfl))]
        split at h
        · rename_i h3; rw [if_pos h3]; cases h; rfl
        · rename_i h3
          rw [if_neg h3]
          split at h
          · rename_i h4; rw [if_pos h4]; cases h; rfl
          · rename_i h4
            rw [if_neg h4]
            split at h
            · cases h
            · rename_i h5; rw [if_neg h5]; cases h; rfl
/-- name = [..] stored with the block's own store -/
def swpC (sc : Scope) (y : Str) (pl vl : Nat) (scope : Scope) : Bool := isLoc sc y && pl == vl && !(scope.names.any fun (n, k) => n == y && (k == .local || k == .cell))
theorem swpC_ok {env : PySem.Env} {y : Str} {py pos : Pos} {l : Nat} {e : Expr} {gens : List Comprehension} {scope : Scope} (hk : env.scope.kind = .function) : swapsWith (.ListComp e gens scope pos) (some (.Name y py)) l env = pure (swpC env.scope y py.line pos.line scope) := by
  have hb : env.blockKind = .function := by unfold Env.blockKind; rw [hk]; rfl
  have e3 : (env.kindOf y == some .local) = isLoc env.scope y := by
    unfold isLoc Env.kindOf
    cases q : env.scope.names.lookup y with
    | none => rfl
    | some k => cases k <;> rfl
  unfold swapsWith swpC
  simp only [hb, e3]
  rfl
theorem swpC_loc {sc : Scope} {y : Str} {pl vl : Nat} {scope : Scope} (h : swpC sc y pl vl scope = true) : isLoc sc y = true := by
  unfold swpC at h
  rw [Bool.and_eq_true, Bool.and_eq_true] at h; exact h.1.1
def isName : Expr → Bool
  | .Name .. => true
  | _ => false
theorem swpC_no {env : PySem.Env} {tg e : Expr} {l : Nat} (h : isName tg = false) : swapsWith e (some tg) l env = pure false := by
  cases e <;> first | rfl | skip
  all_goals (cases tg <;> first | rfl | cases h)
/-- a suite: one answer, or one store -/
def cHb (c : Cc) (nm : Option Str) : Ss → List Stmt → Bool
  | .cons (.ret e) .nil, xs => match xs with
    | [.Return (some x) _] => hotX nm (glB c.sc "isinstance" && glB c.sc "ValueError") e x
    | _ => false
  | .cons (.set (.name j) e) .nil, xs => match xs with
    | [.Assign [.Name y _] x _] => decide (c.N[j]? = some y) && locB c.sc y && (c.fn y || isLoc c.sc y) && noComp x && hotX nm (glB c.sc "isinstance" && glB c.sc "ValueError") e x
    | _ => false
  | _, _ => false
def cHs (c : Cc) : Hs → List ExceptHandler → Bool
  | .nil, xs => xs.isEmpty
  | .cons k o b r, xs => match xs with
    | .ExceptHandler (some (.Name x _)) nm (b0 :: suite) _ :: hds => decide (c.cs[k]? = some x) && glB c.sc x && nodbg x && (match o, nm with
        | none, none => true
        | some i, some m => decide (c.N[i]? = some m) && isLoc c.sc m && nodbg m
        | _, _ => false) && cHb c nm b (b0 :: suite) && cHs c r hds
    | _ => false
mutual
def cS (c : Cc) : S → Stmt → Bool
  | .set t e, s => match s with
    | .Assign [tg] v _ => (match swpN c.sc tg v with
      | some none => cX c false e v && cG c t tg && notStar tg && !isStarred tg && (noComp v || !isName tg || (match tg, v with
        | .Name y py, .ListComp _ _ scope pos => !swpC c.sc y py.line pos.line scope
        | _, _ => false))
        || (match tg, v, t, e with
          | .Name y py, .ListComp elt [⟨ctg, iter, ifs, 0⟩] scope pos, .name i, .comp _ own ct it cond ee =>
            !c.hot && swpC c.sc y py.line pos.line scope && decide (c.N[i]? = some y) && blkC c.N c.sc scope own && ct.pure && ct.ns.all (fun j => decide (j ∈ own.map (·.2))) && noSet iter && cI c ctg it iter && cG (c.blk scope) ct ctg && cD (c.blk scope) cond ifs && cX (c.blk scope) false ee elt
          | _, _, _, _ => false)
      | some (some _) => (match tg, v, t, e with
        | .Tuple [.Name x _, .Name y _] _ _, .Tuple [a, b] _ _, .tup (.cons (.name i) (.cons (.name j) .nil)), .tup es =>
          !c.hot && decide (c.N[i]? = some x) && decide (c.N[j]? = some y) && !decide (i = j) && isLoc c.sc x && isLoc c.sc y && cA c es [a, b] && decide (swpN c.sc tg v = some (some [x, y]))
        | .Tuple [.Name x _, .Name y _, .Name z _] _ _, .Tuple [a, b, d] _ _, .tup (.cons (.name i) (.cons (.name j) (.cons (.name l) .nil))), .tup es =>
          !c.hot && decide (c.N[i]? = some x) && decide (c.N[j]? = some y) && decide (c.N[l]? = some z) && !decide (i = j) && !decide (i = l) && !decide (j = l) && isLoc c.sc x && isLoc c.sc y && isLoc c.sc z && cA c es [a, b, d] && decide (swpN c.sc tg v = some (some [x, y, z]))
        | _, _, _, _ => false)
      | none => false)
    | _ => false
  | .aug i op e, s => match s with
    | .AugAssign (.Name y _) o v _ => decide (c.N[i]? = some y) && locB c.sc y && (c.fn y || isLoc c.sc y) && decide (o = bop op) && (match op with | .add => true | .sub => true | .mul => true | _ => false) && cX c false e v
    | _ => false
  | .expr e, s => match s with
    | .Expr v _ => noComp v && cX c false e v
    | _ => false
  | .ret e, s => match s with
    | .Return (some v) _ => cX c false e v
    | _ => false
  | .retN, s => match s with
    | .Return none _ => true
    | _ => false
  | .iff d a b, s => match s with
    | .If z y w _ => cX c true d z && cSs c a y && cSs c b w
    | _ => false
  | .whl d a, s => match s with
    | .While z y [] _ => cX c true d z && cSs c a y
    | _ => false
  | .for_ t it a, s => match s with
    | .For tg iter y [] _ => !c.hot && noSet iter && cI c tg it iter && cG c t tg && cSs c a y
    | _ => false
  | .raise k, s => match s with
    | .Raise (some (.Call (.Name y _) [] [] _)) none _ => !c.hot && decide (c.cs[k]? = some y) && glB c.sc y && nodbg y
    | _ => false
  | .raise1 _ _, _ => false
  | .try_ b hs, s => match s with
    | .Try y (h :: hds) [] [] _ => !c.hot && cSs c b y && cHs c hs (h :: hds) && hsIn c.cs.length hs
    | _ => false
  | .brk, s => match s with
    | .Break _ => true
    | _ => false
  | .cnt, s => match s with
    | .Continue _ => true
    | _ => false
  | .pass, s => match s with
    | .Pass _ => true
    | _ => false
  | .hole, _ => true
def cSs (c : Cc) : Ss → List Stmt → Bool
  | .nil, xs => xs.isEmpty
  | .cons s r, xs => match xs with
    | [] => false
    | x :: xs => cS c s x && cSs c r xs
end
/-- a statement's context -/
structure Sag (c : Cc) (T : Tp) (n : Nat) (X : Cx) (W : WX) : Prop extends Cag c T n X W where
  kind : c.sc.kind = .function
  stk : X.stack = X.env :: X.outer
  frm : X.env.frame = some X.env.locals
theorem nodbg_eq {x : Str} (h : nodbg x = true) : nodbg' x = true := h
theorem cHb_ok {T : Tp} {n : Nat} {c : Cc} {X : Cx} {W : WX} (A : Sag c T n X W) {k : Nat} {o : Option Nat} {nm : Option Str} {x : Str} (hk : T.cs[k]? = some x) (ho : (match o, nm with
        | none, none => true
        | some i, some m => decide (c.N[i]? = some m) && isLoc c.sc m && nodbg m
        | _, _ => false) = true) {b : Ss} {ys : List Stmt} (h : cHb c nm b ys = true) (a : Addr) (oe : Obj) (cls : Value) (d : Option Addr) (pn : List (Addr × Obj)) (hz : Zc cls d oe) (hf : ∃ vs, oe.data = .fields vs) :
    PSs (X.suite a ((a, oe) :: pn)) ys (tHS T n o k b a cls d) := by
  by_cases hcd : cls = .ref (T.G.ca k) ∧ d = none
  · obtain ⟨rfl, rfl⟩ := hcd
    have E := A.md.ex k x hk
    have S : Su T (X.suite a ((a, oe) :: pn)) a o nm (glB c.sc "isinstance" && glB c.sc "ValueError") k := by
      refine ⟨A.ok.mg, A.md, fun y hy => ?_, fun hg => ?_, ?_, ?_⟩
      · subst hy
        cases o with
        | none => cases ho
        | some i =>
          simp only [Bool.and_eq_true, decide_eq_true_eq] at ho
          exact ⟨i, rfl, by show X.N[i]? = _; rw [A.N]; exact ho.1.1, .inl (isLoc_of A.toCag ho.1.2), nodbg_eq ho.2⟩
      · rw [Bool.and_eq_true] at hg
        exact ⟨gl_of A.toCag hg.1, gl_of A.toCag hg.2⟩
      · have q := call_isE (X := X) (a := a) (D := T.G.ca k) (oe := oe) (pn := pn) (by rw [A.ok.K]; exact E.ec) hz hf
        exact q
      · show PySem.W.kitOne X.K _ _ = _
        rw [A.ok.K]; exact E.ve
    have done : ∀ {t : TS}, PSs (X.suite a ((a, oe) :: pn)) ys (fun D σ H => atName o a σ ∧ t D σ H) → PSs (X.suite a ((a, oe) :: pn)) ys (fun D σ H => Value.ref (T.G.ca k) = .ref (T.G.ca k) ∧ (none : Option Addr) = none ∧ atName o a σ ∧ t D σ H) := fun h => PSs.imp h fun D σ H q => q.2.2
    unfold cHb at h
    split at h
    · split at h
      · exact done (hs_ret (hotX_ok S h))
      · cases h
    · split at h
      · simp only [Bool.and_eq_true, decide_eq_true_eq] at h
        obtain ⟨⟨⟨⟨h1, h2⟩, h3⟩, h4⟩, h5⟩ := h
        exact done (hs_set (X := X.suite a ((a, oe) :: pn)) A.ok.nd (by show X.N[_]? = _; rw [A.N]; exact h1) (loc_of A.toCag h2) (st_of A.toCag h3) h4 (hotX_ok S h5))
      · cases h
    · cases h
  · exact PSs.imp pss_never fun D σ H q => hcd ⟨q.1, q.2.1⟩
theorem cHs_ok {T : Tp} {n : Nat} {c : Cc} {X : Cx} {W : WX} (A : Sag c T n X W) : ∀ {hs : Hs} {hds : List ExceptHandler}, cHs c hs hds = true → HdsG X hds (hsL T n hs)
  | .nil, hds, h => by
    unfold cHs at h
    rw [empty_of h]; exact .nil
  | .cons k o b r, hds, h => by
    unfold cHs at h
    split at h
    · simp only [Bool.and_eq_true, decide_eq_true_eq] at h
      obtain ⟨⟨⟨⟨⟨h1, h2⟩, h3⟩, h4⟩, h5⟩, h6⟩ := h
      rename_i x _ nm b0 suite _ hds'
      have hk : T.cs[k]? = some x := by rw [A.cs]; exact h1
      refine .cons ⟨gl_of A.toCag h2, nodbg1 h3, .inl (by rw [A.ok.mg]; exact (A.md.ex k x hk).mg)⟩ ?_ (fun a oe cls d pn hz hf => cHb_ok A hk h4 h5 a oe cls d pn hz hf) (cHs_ok A h6)
      cases o with
      | none =>
        cases nm with
        | none => exact .inl ⟨rfl, rfl⟩
        | some m => cases h4
      | some i =>
        cases nm with
        | none => cases h4
        | some m =>
          simp only [Bool.and_eq_true, decide_eq_true_eq] at h4
          exact .inr ⟨i, m, rfl, rfl, by rw [A.N]; exact h4.1.1, isLoc_of A.toCag h4.1.2⟩
    · cases h
mutual
theorem cS_ok {T : Tp} {n : Nat} : ∀ (s : S) (c : Cc) (x : Stmt) (X : Cx) (W : WX), Sag c T n X W → cS c s x = true → PS X x (tS T n W s)
  | .set t e, c, x, X, W, A, h => by
    unfold cS at h
    split at h
    · rename_i tg v pos
      have kx : X.env.scope.kind = .function := by rw [A.sc]; exact A.kind
      split at h
      · rename_i hsw
        have hw : swappedStores [tg] v X.env = pure none := swp_ok kx (by rw [A.sc]; exact hsw)
        rw [Bool.or_eq_true] at h
        rcases h with h | h
        · simp only [Bool.and_eq_true] at h
          obtain ⟨⟨⟨⟨h1, h2⟩, h3⟩, h4⟩, h5⟩ := h
          refine s_set ((cX_ok e c false v X W A.toCag h1).1 rfl) (cG_ok t c tg X A.toCag.wf h2).1 ?_ hw h3
          show swapsWith v (some tg) pos.line X.env = pure false
          rw [Bool.or_eq_true, Bool.or_eq_true] at h5
          rcases h5 with (h5 | h5) | h5
          · exact noSwap h5 _ _ _
          · exact swpC_no (by simpa using h5)
          · split at h5
            · rw [swpC_ok kx, A.sc]
              rw [Bool.not_eq_true'] at h5
              rw [h5]
            · cases h5
        · split at h
          · simp only [Bool.and_eq_true, Bool.not_eq_true', List.all_eq_true, decide_eq_true_eq] at h
            obtain ⟨⟨⟨⟨⟨⟨⟨⟨⟨⟨h1, h2⟩, h3⟩, h4⟩, h5⟩, h6⟩, h7⟩, h8⟩, h9⟩, h10⟩, h11⟩ := h
            refine s_setLc (A.cool h1) (by rw [A.N]; exact h3) (isLoc_of A.toCag (swpC_loc h2)) (by rw [swpC_ok kx, A.sc, h2]) (cI_ok _ c _ _ X W A.toCag h8) ?_ h5 h6 (fun s H C cl fp => (cG_ok _ (c.blk _) _ _ (blk_of A.toCag h1 s H _ C cl fp) h9).2 h5) (fun s H C cl fp => cD_ok _ (c.blk _) _ _ WF (blk_of A.toCag h1 s H _ C cl fp) h10) (fun s H C cl fp => (cX_ok _ (c.blk _) false _ _ WF (blk_of A.toCag h1 s H _ C cl fp) h11).1 rfl) (noSet_ok h7 _)
            rw [A.N, A.sc]
            exact blkOk_by h4
          · cases h
      · split at h
        · simp only [Bool.and_eq_true, Bool.not_eq_true', decide_eq_true_eq, decide_eq_false_iff_not] at h
          obtain ⟨⟨⟨⟨⟨⟨⟨h1, h2⟩, h3⟩, h4⟩, h5⟩, h6⟩, h7⟩, h8⟩ := h
          exact s_par (A.cool h1) (by rw [A.N]; exact h2) (by rw [A.N]; exact h3) h4 (isLoc_of A.toCag h5) (isLoc_of A.toCag h6) (cA_ok _ c _ X W A.toCag h7) (swp_ok kx (by rw [A.sc]; exact h8))
        · simp only [Bool.and_eq_true, Bool.not_eq_true', decide_eq_true_eq, decide_eq_false_iff_not] at h
          obtain ⟨⟨⟨⟨⟨⟨⟨⟨⟨⟨⟨h1, h2⟩, h3⟩, h4⟩, h5⟩, h6⟩, h7⟩, h8⟩, h9⟩, h10⟩, h11⟩, h12⟩ := h
          exact s_par3 (A.cool h1) (by rw [A.N]; exact h2) (by rw [A.N]; exact h3) (by rw [A.N]; exact h4) h5 h6 h7 (isLoc_of A.toCag h8) (isLoc_of A.toCag h9) (isLoc_of A.toCag h10) (cA_ok _ c _ X W A.toCag h11) (swp_ok kx (by rw [A.sc]; exact h12))
        · cases h
      · cases h
    · cases h
  | .aug i op e, c, x, X, W, A, h => by
    unfold cS at h
    split at h
    · simp only [Bool.and_eq_true, decide_eq_true_eq] at h
      obtain ⟨⟨⟨⟨⟨h1, h2⟩, h3⟩, rfl⟩, h5⟩, h6⟩ := h
      exact s_aug A.ok (by rw [A.N]; exact h1) (loc_of A.toCag h2) (st_of A.toCag h3) ((cX_ok e c false _ X W A.toCag h6).1 rfl) (by cases op <;> first | exact .inl rfl | exact .inr (.inl rfl) | exact .inr (.inr rfl) | cases h5)
    · cases h
  | .expr e, c, x, X, W, A, h => by
    unfold cS at h
    split at h
    · rw [Bool.and_eq_true] at h
      exact s_expr ((cX_ok e c false _ X W A.toCag h.2).1 rfl) h.1
    · cases h
  | .ret e, c, x, X, W, A, h => by
    unfold cS at h
    split at h
    · exact s_ret ((cX_ok e c false _ X W A.toCag h).1 rfl)
    · cases h
  | .retN, c, x, X, W, A, h => by
    unfold cS at h
    split at h
    · exact s_retN
    · cases h
  | .iff d a b, c, x, X, W, A, h => by
    unfold cS at h
    split at h
    · simp only [Bool.and_eq_true] at h
      exact s_if ((cX_ok d c true _ X W A.toCag h.1.1).2 rfl) (cSs_ok a c _ X W A h.1.2) (cSs_ok b c _ X W A h.2)
    · cases h
  | .whl d a, c, x, X, W, A, h => by
    unfold cS at h
    split at h
    · simp only [Bool.and_eq_true] at h
      exact s_while A.ok ((cX_ok d c true _ X W A.toCag h.1).2 rfl) (cSs_ok a c _ X W A h.2)
    · cases h
  | .for_ t it a, c, x, X, W, A, h => by
    unfold cS at h
    split at h
    · simp only [Bool.and_eq_true, Bool.not_eq_true'] at h
      obtain ⟨⟨⟨⟨h1, h2⟩, h3⟩, h4⟩, h5⟩ := h
      exact s_for (A.cool h1) (cI_ok it c _ _ X W A.toCag h3) (cG_ok t c _ X A.toCag.wf h4).1 (cSs_ok a c _ X W A h5) (noSet_ok h2 _)
    · cases h
  | .raise k, c, x, X, W, A, h => by
    unfold cS at h
    split at h
    · simp only [Bool.and_eq_true, Bool.not_eq_true', decide_eq_true_eq] at h
      obtain ⟨⟨⟨h1, h2⟩, h3⟩, h4⟩ := h
      exact s_raise A.md (A.cool h1) (by rw [A.cs]; exact h2) (gl_of A.toCag h3) (nodbg1 h4)
    · cases h
  | .raise1 _ _, c, x, X, W, A, h => by unfold cS at h; cases h
  | .try_ b hs, c, x, X, W, A, h => by
    unfold cS at h
    split at h
    · simp only [Bool.and_eq_true, Bool.not_eq_true', decide_eq_true_eq] at h
      obtain ⟨⟨⟨h1, h2⟩, h3⟩, h4⟩ := h
      have q := A.cool h1
      have hin : hsIn T.cs.length hs = true := by rw [A.cs]; exact h4
      refine PS.imp (ps_tryG (tb := fun W => tSs T n W b) A.stk A.frm A.ok.nd A.ok.takes (fun W' pn xe tk pa => cSs_ok b c _ (X.tr pn xe) W' ?_ h2) (cHs_ok A h3)) fun D σ H ⟨μ, env, st, rs, p⟩ => ?_
      · have k' : Cok T n (X.tr pn xe) W' := ⟨q.prog, q.w, q.gw, q.K, q.mg, q.base, q.nd, q.un, tk, pa⟩
        exact ⟨⟨A.N, A.sc, A.fn, A.fs, A.ps, A.pn, A.gn, A.cs, A.dn, k', fun _ => ⟨k', q.calm, q.room⟩, A.md, A.K⟩, A.kind, A.stk, A.frm⟩
      · rw [A.ok.K]
        exact ⟨μ, env, st, rs, try_body A.md hin p⟩
    · cases h
  | .brk, c, x, X, W, A, h => by
    unfold cS at h
    split at h
    · exact s_brk
    · cases h
  | .cnt, c, x, X, W, A, h => by
    unfold cS at h
    split at h
    · exact s_cnt
    · cases h
  | .pass, c, x, X, W, A, h => by
    unfold cS at h
    split at h
    · exact s_pass
    · cases h
  | .hole, c, x, X, W, A, h => s_hole
theorem cSs_ok {T : Tp} {n : Nat} : ∀ (s : Ss) (c : Cc) (xs : List Stmt) (X : Cx) (W : WX), Sag c T n X W → cSs c s xs = true → PSs X xs (tSs T n W s)
  | .nil, c, xs, X, W, A, h => by
    unfold cSs at h
    rw [empty_of h]; exact ss_nil
  | .cons s r, c, xs, X, W, A, h => by
    unfold cSs at h
    split at h
    · cases h
    · rw [Bool.and_eq_true] at h
      exact ss_cons (cS_ok s c _ X W A h.1) (cSs_ok r c _ X W A h.2)
end
end Ev

/-! EvH: a law by its evaluation. -/
namespace Ev
open PySem PySem.Spec PyProof.Rows L2
def plainArgs (a : Arguments) (ps : List Str) : Bool := match a with
  | ⟨[], as, none, [], [], none, []⟩ => decide (as.map (·.arg) = ps) && decide ps.Nodup
  | _ => false
theorem plainArgs_ok {a : Arguments} {ps : List Str} (h : plainArgs a ps = true) {x qual : Str} {body : List Stmt} {scope : Scope} {kV doc pm : Value} {an : Option Addr} {cdv ct : Value} {us : List Value} (hl : us.length = ps.length) :
    bindArgs (PySem.W.fnOf x qual a body scope .none kV doc pm an cdv ct) ⟨us, []⟩ = pure (ps.zip us) := by
  unfold plainArgs at h
  split at h
  · rw [Bool.and_eq_true, decide_eq_true_eq, decide_eq_true_eq] at h
    obtain ⟨rfl, h2⟩ := h
    exact bind_plain rfl rfl h2 (by rw [hl, List.length_map])
  · cases h
theorem plainFd_of {K : PySem.W.Frag} {x qual : Str} {a : Arguments} {body : List Stmt} {scope : Scope} {kws : List (Str × V)} {f : Addr} {fd : FuncData} {ps : List Str} (F : FunD K x qual a body scope [] kws f fd) (h : plainArgs a ps = true) : PlainFd fd ps := by
  obtain ⟨oc, od, dV, kV, doc, pm, an, cdv, ct, osl, rfl, lk, hcd, hD, hK⟩ := F.ex
  unfold plainArgs at h
  split at h
  · rw [Bool.and_eq_true, decide_eq_true_eq, decide_eq_true_eq] at h
    rcases hD with ⟨_, rfl⟩ | ⟨e, _⟩
    · exact ⟨_, rfl, rfl, h.1, h.2⟩
    · exact absurd rfl e
  · cases h
/-- a def's look -/
def chkD (fs : List Str) (ps : List (List Str)) (gn cs dn : List Str) (f : Fn) (st : Stmt) : Bool :=
  C8.scC f.N (f.N.take f.np) (L2.defScope st) && decide (f.np ≤ f.N.length) && plainArgs (L2.defArgs st) (f.N.take f.np) && cSs ⟨f.N, L2.defScope st, fun _ => true, fs, ps, gn, cs, dn, false⟩ f.body (L2.defBody st)
theorem def_ok {T : Tp} {i : Nat} {f : Fn} {st : Stmt} {nm : Str} (F : FunD T.G.K nm nm (L2.defArgs st) (L2.defBody st) (L2.defScope st) [] [] (T.G.fa i) (T.fd i)) (hm : T.mg f.name = some (.ref (T.G.fa i))) (hpn : ∀ f ∈ T.fs, f.np ≤ f.N.length) (h : chkD (T.fs.map (·.name)) (T.fs.map fun f => f.N.take f.np) T.gn T.cs T.dn f st = true) : DefOk T i f := by
  unfold chkD at h
  simp only [Bool.and_eq_true, decide_eq_true_eq] at h
  obtain ⟨⟨⟨h1, h2⟩, h3⟩, h4⟩ := h
  have S := C8.fnScope_by h1
  exact ⟨⟨st, nm, F, S, fun n X W K C hs hf hN hsc hfn => cSs_ok f.body _ _ X W ⟨⟨hN, hsc, hfn, rfl, rfl, hpn, rfl, rfl, rfl, C.toCok, fun _ => C, K.toMd, fun _ => K⟩, S.kind, hs, hf⟩ h4⟩, h2, hm, F.kp, plainFd_of F h3⟩

/-! ### constants of the module -/
def allB {α β : Type} (f : α → β → Bool) : List α → List β → Bool
  | [], [] => true
  | x :: xs, y :: ys => f x y && allB f xs ys
  | _, _ => false
def repV (K : PySem.W.Frag) : Nat → Value → PV → Bool
  | _, .int i _, .int j => decide (i = j)
  | _, .str x _, .str y => decide (x = ⟨y.toArray⟩)
  | _, .bool b, .bl d => decide (b = d)
  | _, .none, .non => true
  | d + 1, .ref a, .tup xs => (match K.lookup a with
    | some ⟨.type c, _, .seq its _, _⟩ => decide (c = "tuple") && decide (its.size ≤ sizeLine) && allB (repV K d) its.toList xs
    | _ => false)
  | _, _, _ => false
theorem repVs_ok {G : Pl} {K : PySem.W.Frag} {d : Nat} (ih : ∀ u pv, repV K d u pv = true → ∃ v, RelV v u ∧ ∀ μ H, Rep G μ H pv v) : ∀ {us : List Value} {xs : List PV}, allB (repV K d) us xs = true → ∃ vs, Vals vs us ∧ ∀ μ H, Reps G μ H xs vs
  | [], [], _ => ⟨[], .nil, fun _ _ => rfl⟩
  | u :: us, x :: xs, h => by
    rw [allB, Bool.and_eq_true] at h
    obtain ⟨v, r, q⟩ := ih u x h.1
    obtain ⟨vs, rs, qs⟩ := repVs_ok ih h.2
    exact ⟨v :: vs, .cons r rs, fun μ H => ⟨v, vs, rfl, q μ H, qs μ H⟩⟩
  | [], _ :: _, h => by cases h
  | _ :: _, [], h => by cases h
theorem repV_ok {G : Pl} {K : PySem.W.Frag} (hK : G.K = K) : ∀ (d : Nat) (u : Value) (pv : PV), repV K d u pv = true → ∃ v, RelV v u ∧ ∀ μ H, Rep G μ H pv v := by
  intro d
  induction d with
  | zero =>
    intro u pv h
    unfold repV at h
    split at h
    · exact ⟨.int _, ⟨_, rfl⟩, fun _ _ => by rw [Rep, of_decide_eq_true h]⟩
    · exact ⟨.str _, ⟨_, rfl⟩, fun _ _ => by rw [Rep, of_decide_eq_true h]⟩
    · exact ⟨.bl _, rfl, fun _ _ => by rw [Rep, of_decide_eq_true h]⟩
    · exact ⟨.non, rfl, fun _ _ => by rw [Rep]⟩
    · rename_i e; cases e
    · cases h
  | succ d ih =>
    intro u pv h
    unfold repV at h
    split at h
    · exact ⟨.int _, ⟨_, rfl⟩, fun _ _ => by rw [Rep, of_decide_eq_true h]⟩
    · exact ⟨.str _, ⟨_, rfl⟩, fun _ _ => by rw [Rep, of_decide_eq_true h]⟩
    · exact ⟨.bl _, rfl, fun _ _ => by rw [Rep, of_decide_eq_true h]⟩
    · exact ⟨.non, rfl, fun _ _ => by rw [Rep]⟩
    · rename_i d' a xs e
      have ed : d = d' := Nat.succ.inj e
      subst ed
      split at h
      · rename_i c dd its n sl hl
        rw [Bool.and_eq_true, Bool.and_eq_true, decide_eq_true_eq, decide_eq_true_eq] at h
        obtain ⟨⟨rfl, h2⟩, h3⟩ := h
        obtain ⟨vs, q1, q2⟩ := repVs_ok (G := G) ih h3
        exact ⟨.ref a, rfl, fun μ H => ⟨a, vs, rfl, .inr ⟨_, its, n, by rw [hK]; exact hl, rfl, rfl, h2, q1⟩, q2 μ H⟩⟩
      · cases h
    · cases h
/-! ### a law -/
structure Lw where
  fs : List Fn
  sts : List Stmt
  gn : List Str
  /-- the constants' values; behind them the tables' -/
  gs : Gv
  cs : List Str
  /-- the defs' own names -/
  ow : List Str
  /-- the tables' names -/
  dn : List Str
def Lw.nm (L : Lw) (i : Nat) : Str := (L.fs.map (·.name)).getD i ("" : Str)
def Lw.cn (L : Lw) (i : Nat) : Str := L.cs.getD i ("" : Str)
theorem Lw.nm_eq {L : Lw} {i : Nat} {f : Fn} (h : L.fs[i]? = some f) : L.nm i = f.name := by
  unfold Lw.nm
  rw [List.getD_eq_getElem?_getD, List.getElem?_map, h]; rfl
theorem Lw.cn_eq {L : Lw} {i : Nat} {x : Str} (h : L.cs[i]? = some x) : L.cn i = x := by
  unfold Lw.cn
  rw [List.getD_eq_getElem?_getD, h]; rfl
def Lw.dl (L : Lw) : List He.DefD := ((L.fs.zip L.ow).zip L.sts).map fun p => ⟨(p.1.1.name, none), p.1.2, p.1.2, L2.defArgs p.2, L2.defBody p.2, L2.defScope p.2, [], []⟩
def Lw.tbs (L : Lw) : List PV := L.gs.drop L.gn.length
def keysOf : PV → List Str
  | .tup tb => tb.filterMap fun
    | .tup [.str k, _] => some ⟨k.toArray⟩
    | _ => none
  | _ => []
/-- a table as the module has it -/
def dtB (K : PySem.W.Frag) (x : Str) : PV → Bool
  | .tup tb => He.eqO (PySem.W.nsIn K mainGlobals x) (some (some (.ref (He.ga K x)))) && tb.all fun
    | .tup [.str k, v] => (match PySem.W.nsIn K (He.ga K x) ⟨k.toArray⟩ with
      | some (some u) => repV K 8 u v
      | _ => false)
    | _ => false
  | _ => false
def Lw.fa (L : Lw) : List He.Fa := (L.fs.map fun f => .glo f.name) ++ ((L.cs.map .glo) ++ ((L.cs.map .exc) ++ (bltNames.map .free)))
def gvB (K : PySem.W.Frag) (x : Str) (pv : PV) : Bool := match PySem.W.nsIn K mainGlobals x with
  | some (some v) => repV K 8 v pv
  | _ => false
def excCk (K : PySem.W.Frag) (D : Addr) : Bool :=
  He.eqO (PySem.W.findIn K (.ref D) "__getattribute__") (some (some (.builtin "BaseException.__getattribute__"))) && He.eqO (PySem.W.findIn K (.ref D) "__getattr__") (some none) && decide (PySem.W.subIn K (.ref D) (.type "BaseException") = some true) &&
  PySem.W.hasDictIn K D && He.eqO (PySem.W.findIn K (.ref D) "__class__") (some (some (.builtin "object.__class__"))) && He.eqO (PySem.W.specialIn K (.builtin "object.__class__") "__get__") (some (some (.builtin "getset_descriptor.__get__"))) &&
  decide (PySem.W.takesIn K (.builtin "object.__class__") = some true) && decide (PySem.W.mroIn K D (.type "object") = some true) && decide (PySem.W.kitOne K (.ref D) (.type "ValueError") = some true)
theorem excCk_ok {K : PySem.W.Frag} {D : Addr} (h : excCk K D = true) : ExcC K D ∧ PySem.W.kitOne K (.ref D) (.type "ValueError") = some true := by
  unfold excCk at h
  simp only [Bool.and_eq_true, decide_eq_true_eq] at h
  obtain ⟨⟨⟨⟨⟨⟨⟨⟨h1, h2⟩, h3⟩, h4⟩, h5⟩, h6⟩, h7⟩, h8⟩, h9⟩ := h
  exact ⟨⟨He.eqO_ok h1, He.eqO_ok h2, h3, h4, He.eqO_ok h5, He.eqO_ok h6, h7, h8⟩, h9⟩
def Lw.exck (L : Lw) (K : PySem.W.Frag) : Bool := (List.range L.cs.length).all fun j => excCk K (He.ga K (L.cn j)) && (List.range L.cs.length).all fun k => decide (PySem.W.exmOne K (.ref (He.ga K (L.cn j))) (.ref (He.ga K (L.cn k))) = some (decide (j = k)))
def Lw.ck (L : Lw) (K : PySem.W.Frag) : Bool := L.exck K && He.eqO (PySem.W.nsIn K mainGlobals "gcd") (some (some (.builtin "math.gcd"))) && allB (gvB K) L.gn (L.gs.take L.gn.length) && allB (dtB K) L.dn L.tbs
def obsV (L : Lw) (K : PySem.W.Frag) : He.AlT := ((((L.fa.all fun f => f.ok K) && L.dl.all fun d => d.ok K) && L.ck K, L.dl.map fun d => He.fnW K d.at_), L.dn.map fun x => He.dicW K (He.ga K x))
def valV (L : Lw) (w : World) : He.AlT := (He.valD L.dl, L.tbs.map fun t => some (He.keysIn w.params (keysOf t)))
def SaysV (L : Lw) (w : World) (K : PySem.W.Frag) : Prop := obsV L K = valV L w
/-- what the module's names reach in n steps, each step from the last one's alone -/
def asE (g : Addr → Option Obj) : Nat → List Addr → List Addr
  | 0, as => as
  | n + 1, as => as ++ asE g n (as.flatMap fun a => match g a with
    | some o => He.refsD o
    | none => [])
def obsVG (n : Nat) (L : Lw) (g : Addr → Option Obj) : He.AlT := obsV L (He.frG g (asE g n [mainGlobals]))
def hookV (n : Nat) (L : Lw) : PySem.W.Hook where
  α := He.AlT
  obs := fun s => obsVG n L s.heap.get?
  val := fun w => valV L w
  says := fun w h => ∃ K : PySem.W.Frag, K.In h ∧ SaysV L w K
  of := fun _ _ e => ⟨_, He.frG_in, e⟩
  keeps := fun _ _ _ ⟨K, hK, c⟩ k => ⟨K, PySem.W.Frag.In.keeps hK k, c⟩
theorem obsVG_eq {n : Nat} {L : Lw} {g : Addr → Option Obj} {s : Shared} (h : ∀ a, g a = s.heap.get? a) : obsVG n L g = (hookV n L).obs s := by
  have e : g = s.heap.get? := funext h
  rw [e] <;> rfl
section
variable {L : Lw} {K : PySem.W.Frag} {w : World}
theorem SaysV.says (c : SaysV L w K) : He.SaysD L.fa L.dl K ∧ L.ck K = true := by
  have c1 := congrArg (fun z : He.AlT => z.1.1) c
  have c2 := congrArg (fun z : He.AlT => z.1.2) c
  have c1 : (((L.fa.all fun f => f.ok K) && L.dl.all fun d => d.ok K) && L.ck K) = true := c1
  rw [Bool.and_eq_true] at c1
  refine ⟨?_, c1.2⟩
  show ((L.fa.all fun f => f.ok K) && L.dl.all fun d => d.ok K, L.dl.map fun d => He.fnW K d.at_) = (true, _)
  rw [c1.1]
  exact Prod.ext rfl c2
theorem keys_at {P : Params} {es : Array DictEntry} {ks : List Str} (h : es.toList.map He.keyOf = He.keysIn P ks) {z : Str} (hz : z ∉ ks) : (es.toList.find? (·.key.isStr z)) = none ∧ es.toList.any (·.refKey) = false := by
  generalize es.toList = l at h
  revert ks
  induction l with
  | nil => intro ks hz h; exact ⟨rfl, rfl⟩
  | cons e r ih =>
    intro ks hz h
    cases ks with
    | nil => cases h
    | cons k ks =>
      have h1 : He.keyOf e :: r.map He.keyOf = some (k, PyData.keyHash P k) :: He.keysIn P ks := h
      injection h1 with h2 h3
      obtain ⟨i1, i2⟩ := ih (fun z' => hz (List.mem_cons_of_mem _ z')) h3
      unfold He.keyOf at h2
      split at h2
      · rename_i x t q
        have h4 := Option.some.inj h2
        obtain ⟨h5, h6⟩ := Prod.mk.inj h4
        subst h5
        have n1 : e.key.isStr z = false := by
          rw [q]
          show (x == z) = false
          rw [beq_eq_false_iff_ne]
          exact fun e => hz (by rw [← e]; exact List.mem_cons_self)
        have n2 : e.refKey = false := by
          unfold DictEntry.refKey
          rw [q]
        exact ⟨by rw [List.find?_cons, n1]; exact i1, by rw [List.any_cons, n2, i2]; rfl⟩
      · cases h2
theorem nsIn_out {K : PySem.W.Frag} {P : Params} {a : Addr} {ks : List Str} (h : He.dicW K a = some (He.keysIn P ks)) {z : Str} (hz : z ∉ ks) : PySem.W.nsIn K a z = some none := by
  unfold He.dicW at h
  unfold PySem.W.nsIn
  cases q : K.lookup a with
  | none => rw [q] at h; cases h
  | some o =>
    rw [q] at h
    obtain ⟨oc, od, dt, osl⟩ := o
    cases oc with
    | type c =>
      cases od with
      | none =>
        cases dt with
        | dict es n =>
          have h1 : (match decide (c = "dict") && (osl.isEmpty && !(a == sysModules)) with
            | true => some (es.toList.map He.keyOf)
            | false => none) = some (He.keysIn P ks) := h
          split at h1
          · obtain ⟨e1, e2⟩ := keys_at (Option.some.inj h1) hz
            show (match es.toList.find? (·.key.isStr z) with
              | some e => some (some e.val)
              | none => if es.toList.any (·.refKey) then none else some none) = some none
            rw [e1, e2] <;> rfl
          · cases h1
        | _ => cases h
      | some b => cases dt <;> cases h
    | _ => cases od <;> cases dt <;> cases h
theorem look_in {tb : List PV} {s : List Nat} {f : PV → Bool} (hf : ∀ k v, f (.tup [.str k, v]) = true → True) (hs : ∀ x, f x = true → ∃ k v, x = .tup [.str k, v]) (h : tb.all f = true) : (∃ pv, lookT tb s = some pv ∧ f (.tup [.str s, pv]) = true) ∨ (lookT tb s = none ∧ (⟨s.toArray⟩ : Str) ∉ keysOf (.tup tb)) := by
  induction tb with
  | nil => exact .inr ⟨rfl, by simp [keysOf]⟩
  | cons x r ih =>
    rw [List.all_cons, Bool.and_eq_true] at h
    obtain ⟨k, v, rfl⟩ := hs x h.1
    by_cases e : k = s
    · subst e
      exact .inl ⟨v, by rw [lookT, if_pos rfl], h.1⟩
    · rcases ih h.2 with ⟨pv, q1, q2⟩ | ⟨q1, q2⟩
      · exact .inl ⟨pv, by rw [lookT, if_neg e]; exact q1, q2⟩
      · refine .inr ⟨by rw [lookT, if_neg e]; exact q1, fun z => ?_⟩
        have z : (⟨s.toArray⟩ : Str) ∈ (⟨k.toArray⟩ : Str) :: keysOf (.tup r) := z
        rcases List.mem_cons.mp z with z | z
        · have z' : s.toArray = k.toArray := by injection z
          exact e (by simpa using congrArg Array.toList z'.symm)
        · exact q2 z
theorem SaysV.tab (c : SaysV L w K) (i : Nat) {x : Str} {t : PV} (hx : L.dn[i]? = some x) (ht : L.tbs[i]? = some t) : He.dicW K (He.ga K x) = some (He.keysIn w.params (keysOf t)) := by
  have e : (L.dn.map fun x => He.dicW K (He.ga K x)) = L.tbs.map fun t => some (He.keysIn w.params (keysOf t)) := congrArg (fun z : He.AlT => z.2) c
  have e2 : (L.dn.map fun x => He.dicW K (He.ga K x))[i]? = (L.tbs.map fun t => some (He.keysIn w.params (keysOf t)))[i]? := by rw [e]
  rw [List.getElem?_map, List.getElem?_map, hx, ht] at e2
  exact Option.some.inj e2
def fdOf (K : PySem.W.Frag) (a : Addr) : FuncData := match K.lookup a with
  | some ⟨_, _, .func fd, _⟩ => fd
  | _ => default
theorem fdOf_eq {x qual : Str} {a : Arguments} {body : List Stmt} {scope : Scope} {dvs : List V} {kws : List (Str × V)} {f : Addr} {fd : FuncData} (F : FunD K x qual a body scope dvs kws f fd) : fdOf K f = fd := by
  obtain ⟨oc, od, dV, kV, doc, pm, an, cdv, ct, osl, _, lk, _⟩ := F.ex
  unfold fdOf; rw [lk]
/-- the program that a law tells -/
abbrev Lw.tp (L : Lw) (P : Program) (w : World) (K : PySem.W.Frag) (mg : Str → Option Value) (base : Heap) : Tp where
  P := P
  w := w
  G := ⟨K, fun i => He.ga K (L.nm i), fun k => He.ga K (L.cn k), none, L.cs.length, w⟩
  mg := mg
  base := base
  gs := L.gs
  gn := L.gn
  fs := L.fs
  fd := fun i => fdOf K (He.ga K (L.nm i))
  cs := L.cs
  dn := L.dn
def Lw.chk (L : Lw) : Bool := (decide (L.sts.length = L.fs.length) && decide (L.ow.length = L.fs.length)) && allB (fun f st => chkD (L.fs.map (·.name)) (L.fs.map fun f => f.N.take f.np) L.gn L.cs L.dn f st) L.fs L.sts
theorem allB_get {α β : Type} {f : α → β → Bool} : ∀ {xs : List α} {ys : List β} {i : Nat} {x : α}, allB f xs ys = true → xs[i]? = some x → ∃ y, ys[i]? = some y ∧ f x y = true
  | [], ys, i, x, _, e => by simp at e
  | x :: xs, [], _, _, h, _ => by cases h
  | a :: xs, b :: ys, 0, x, h, e => by
    rw [allB, Bool.and_eq_true] at h
    have : a = x := by simpa using e
    subst this
    exact ⟨b, rfl, h.1⟩
  | a :: xs, b :: ys, i + 1, x, h, e => by
    rw [allB, Bool.and_eq_true] at h
    exact allB_get (i := i) h.2 (by simpa using e)
theorem Lw.base {P : Program} {w : World} {mg : Str → Option Value} {base h : Heap} (X : K.In h) (G : h.Ns mainGlobals mg) (c : SaysV L w K) (hc : L.chk = true) : (L.tp P w K mg base).Base := by
  obtain ⟨cd, ck⟩ := c.says
  unfold Lw.chk at hc
  rw [Bool.and_eq_true, Bool.and_eq_true, decide_eq_true_eq, decide_eq_true_eq] at hc
  have glo : ∀ x, He.Fa.glo x ∈ L.fa → mg x = some (.ref (He.ga K x)) := fun x hx => by
    obtain ⟨i, hi⟩ := List.mem_iff_getElem?.mp hx
    exact He.glo_ok X G (cd.fact i hi)
  have name : ∀ i f, L.fs[i]? = some f → L.nm i = f.name := fun i f hf => L.nm_eq hf
  have mgf : ∀ i f, L.fs[i]? = some f → mg f.name = some (.ref (He.ga K (L.nm i))) := fun i f hf => by
    rw [name i f hf]
    exact glo _ (List.mem_append_left _ (List.mem_map.mpr ⟨f, List.mem_of_getElem? hf, rfl⟩))
  unfold Lw.ck at ck
  rw [Bool.and_eq_true, Bool.and_eq_true, Bool.and_eq_true] at ck
  have exk : ∀ j, j < L.cs.length → excCk K (He.ga K (L.cn j)) = true ∧ ∀ k, k < L.cs.length → PySem.W.exmOne K (.ref (He.ga K (L.cn j))) (.ref (He.ga K (L.cn k))) = some (decide (j = k)) := fun j hj => by
    have q := ck.1.1.1
    unfold Lw.exck at q
    rw [List.all_eq_true] at q
    have q := q j (List.mem_range.mpr hj)
    rw [Bool.and_eq_true, List.all_eq_true] at q
    exact ⟨q.1, fun k hk => of_decide_eq_true (q.2 k (List.mem_range.mpr hk))⟩
  refine ⟨⟨rfl, rfl, fun x hx => ?_, ?_, fun k x hk => ?_, fun j k hj hk => (exk j hj).2 k hk, fun i x hi => ?_, fun i x hi => ?_⟩, fun i f hf => ?_⟩
  · obtain ⟨i, hi⟩ := List.mem_iff_getElem?.mp (show He.Fa.free x ∈ L.fa from List.mem_append_right _ (List.mem_append_right _ (List.mem_append_right _ (List.mem_map.mpr ⟨x, hx, rfl⟩))))
    exact He.free_ok X G (cd.fact i hi)
  · exact PySem.W.mg_of X G (He.eqO_ok ck.1.1.2)
  · have hx : x ∈ L.cs := List.mem_of_getElem? hk
    have e1 : He.ga K (L.cn k) = He.ga K x := by rw [Lw.cn_eq hk]
    obtain ⟨i, hi⟩ := List.mem_iff_getElem?.mp (show He.Fa.exc x ∈ L.fa from List.mem_append_right _ (List.mem_append_right _ (List.mem_append_left _ (List.mem_map.mpr ⟨x, hx, rfl⟩))))
    obtain ⟨q1, q2, q3, q4⟩ := He.exc_ok (cd.fact i hi)
    refine ⟨?_, ?_, ⟨"ValueError", "ValueError.__new__", "ValueError.__init__", He.veBase, PySem.F.excBase_ValueError, ?_⟩, ?_, ?_, ?_, ?_⟩
    · show mg x = some (.ref (He.ga K (L.cn k)))
      rw [e1]; exact glo _ (List.mem_append_right _ (List.mem_append_left _ (List.mem_map.mpr ⟨x, hx, rfl⟩)))
    · show PySem.W.keepIn K (.ref (He.ga K (L.cn k))) = true
      rw [e1]; exact q2
    · show PySem.W.excIn K (He.ga K (L.cn k)) He.veBase "ValueError.__new__" = true
      rw [e1]; exact q1
    · show PySem.W.subIn K (.ref (He.ga K (L.cn k))) _ = _
      rw [e1]; exact q3
    · show PySem.W.typeIn K (.ref (He.ga K (L.cn k))) = _
      rw [e1]; exact q4
    · exact (excCk_ok (exk k (List.getElem?_eq_some_iff.mp hk).1).1).1
    · exact (excCk_ok (exk k (List.getElem?_eq_some_iff.mp hk).1).1).2
  · obtain ⟨pv, h1, h2⟩ := allB_get ck.1.2 hi
    have h1 : L.gs[i]? = some pv := by
      rw [List.getElem?_take] at h1
      split at h1
      · exact h1
      · cases h1
    unfold gvB at h2
    split at h2
    · rename_i u hu
      obtain ⟨v, r, q⟩ := repV_ok (G := (L.tp P w K mg base).G) rfl 8 u pv h2
      exact ⟨v, u, pv, h1, PySem.W.mg_of X G hu, r, q⟩
    · cases h2
  · obtain ⟨pv, h1, h2⟩ := allB_get ck.2 hi
    have td := c.tab i hi h1
    have h1' : L.gs[L.gn.length + i]? = some pv := by
      unfold Lw.tbs at h1
      rw [List.getElem?_drop] at h1
      exact h1
    unfold dtB at h2
    split at h2
    · rename_i tb
      rw [Bool.and_eq_true] at h2
      refine ⟨He.ga K x, tb, h1', PySem.W.mg_of X G (He.eqO_ok h2.1), He.dicW_ok td, fun s => ?_⟩
      rcases look_in (s := s) (fun _ _ _ => trivial) (fun y hy => by
        split at hy
        · exact ⟨_, _, rfl⟩
        · cases hy) h2.2 with ⟨pv, q1, q2⟩ | ⟨q1, q2⟩
      · rw [q1]
        dsimp only at q2
        split at q2
        · rename_i u hu
          obtain ⟨v, r, q⟩ := repV_ok (G := (L.tp P w K mg base).G) rfl 8 u pv q2
          exact ⟨u, v, hu, r, q⟩
        · cases q2
      · rw [q1]
        exact nsIn_out td q2
    · cases h2
  · obtain ⟨st, h1, h2⟩ := allB_get hc.2 hf
    obtain ⟨nm, hnm⟩ : ∃ nm, L.ow[i]? = some nm := ⟨_, List.getElem?_eq_getElem (by rw [hc.1.2]; exact (List.getElem?_eq_some_iff.mp hf).1)⟩
    have hd : L.dl[i]? = some ⟨(f.name, none), nm, nm, L2.defArgs st, L2.defBody st, L2.defScope st, [], []⟩ := by
      unfold Lw.dl
      rw [List.getElem?_map, show ((L.fs.zip L.ow).zip L.sts)[i]? = some ((f, nm), st) from List.getElem?_zip_eq_some.mpr ⟨List.getElem?_zip_eq_some.mpr ⟨hf, hnm⟩, h1⟩]; rfl
    obtain ⟨fd, F⟩ := cd.def_ i hd
    have e1 : He.fAd K (f.name, none) = He.ga K (L.nm i) := by rw [name i f hf]; rfl
    have F : FunD K nm nm (L2.defArgs st) (L2.defBody st) (L2.defScope st) [] [] (He.fAd K (f.name, none)) fd := F
    rw [e1] at F
    refine def_ok (st := st) (nm := nm) ?_ (mgf i f hf) (fun g hg => ?_) h2
    show FunD K nm nm (L2.defArgs st) (L2.defBody st) (L2.defScope st) [] [] (He.ga K (L.nm i)) (fdOf K (He.ga K (L.nm i)))
    rw [fdOf_eq F]; exact F
    obtain ⟨j, hj⟩ := List.mem_iff_getElem?.mp hg
    obtain ⟨st', h1', h2'⟩ := allB_get hc.2 hj
    unfold chkD at h2'
    simp only [Bool.and_eq_true, decide_eq_true_eq] at h2'
    exact h2'.1.1.2
/-- nothing is let out -/
theorem noX {P : Program} {w : World} {mg : Str → Option Value} {base : Heap} {k : Nat} {f : Addr} {fd : FuncData} {ps : List Str} {sp : Sp} (F : FnOk P w K mg base (L2.CX P w) k f fd ps sp) :
    FnOk P w K mg base L2.CX0 k f fd ps (fun vs H Q _ => sp vs H Q fun _ _ _ => False) :=
  ⟨fun vs H Q E h => F.len vs H Q _ h, fun A outer s H args us vs Q E hr he hb hv hs => codeAny_mono (F.run A outer s H args us vs Q _ hr he hb hv hs) fun r s' q => by
    cases r with
    | ok v => cases v <;> exact q
    | error e =>
      obtain ⟨a, B, H', cls, d, _, _, _, _, _, _, _, z⟩ := q
      exact z.elim⟩
/-- what the law's end asks -/
theorem Lw.facts {P : Program} {w : World} {mg : Str → Option Value} {h : Heap} {f : Addr} {n ld most : Nat} {fl : Fn} {x : Str} (X : K.In h) (G : h.Ns mainGlobals mg) (hfa : mg ("law" : Str) = some (.ref f)) (c : SaysV L w K) (hc : L.chk = true)
    (hl : L.fs[ld]? = some fl) (hn : fl.name = "law") (hp : fl.N.take fl.np = [x]) (plain : ∀ ns : List Int, ns.length ≤ most → callN L.gs L.fs (n + 1) ld [.scr (ns.map .int)] [] = .ok (.bl true) []) :
    ∃ (fd : FuncData) (sp : Sp), (∀ (s : Shared) (v : Value), BindsTo s fd ⟨[v], []⟩ [(x, v)]) ∧ (∀ (H : Hp) (a : Addr) (ns : List Int), ns.length ≤ most → Only H → SqL K H a (ns.map V.int) → sp [.ref a] H (fun v _ => v = .bl true) fun _ _ _ => False) ∧
      ∀ base : Heap, K.In base → base.Ns mainGlobals mg → FnOk P w K mg base L2.CX0 (n + 1) f fd [x] sp := by
  obtain ⟨cd, ck⟩ := c.says
  have hc' := hc
  unfold Lw.chk at hc'
  rw [Bool.and_eq_true, Bool.and_eq_true, decide_eq_true_eq, decide_eq_true_eq] at hc'
  obtain ⟨st, h1, h2⟩ := allB_get hc'.2 hl
  obtain ⟨nm, hnm⟩ : ∃ nm, L.ow[ld]? = some nm := ⟨_, List.getElem?_eq_getElem (by rw [hc'.1.2]; exact (List.getElem?_eq_some_iff.mp hl).1)⟩
  have hd : L.dl[ld]? = some ⟨(fl.name, none), nm, nm, L2.defArgs st, L2.defBody st, L2.defScope st, [], []⟩ := by
    unfold Lw.dl
    rw [List.getElem?_map, show ((L.fs.zip L.ow).zip L.sts)[ld]? = some ((fl, nm), st) from List.getElem?_zip_eq_some.mpr ⟨List.getElem?_zip_eq_some.mpr ⟨hl, hnm⟩, h1⟩]; rfl
  obtain ⟨fd, F⟩ := cd.def_ ld hd
  have ef : f = He.ga K fl.name := by
    have q := ((Lw.base (P := P) (w := w) (base := h) X G c hc).df ld fl hl).mg
    have q : mg fl.name = some (.ref (He.ga K (L.nm ld))) := q
    rw [hn, hfa] at q
    have e : L.nm ld = fl.name := L.nm_eq hl
    rw [e] at q
    injection q with q; injection q
  have F : FunD K nm nm (L2.defArgs st) (L2.defBody st) (L2.defScope st) [] [] (He.ga K fl.name) fd := F
  rw [← ef] at F
  have pa : plainArgs (L2.defArgs st) [x] = true := by
    unfold chkD at h2
    simp only [Bool.and_eq_true] at h2
    rw [hp] at h2; exact h2.1.2
  refine ⟨fd, fun vs H Q E => (L.tp P w K mg h).sp (n + 1) ld vs H Q fun _ _ _ => False, fun s v => F.bindsA (ps := [x]) (fun kV doc pm an cdv ct us hl => plainArgs_ok pa hl) s [v] rfl, fun H a ns hns hO hS => ?_, fun base hb1 hb2 => ?_⟩
  · refine ⟨⟨[], []⟩, [], [.scr (ns.map .int)], ⟨rfl, List.nodup_nil, by simp, by simp, by simp⟩, ⟨.ref a, [], rfl, ?_, rfl⟩, ?_⟩
    · have hr : ∀ μ : Mu, Reps (L.tp P w K mg h).G μ H (ns.map PV.int) (ns.map V.int) := fun μ => by
        clear hS hns
        induction ns with
        | nil => rfl
        | cons i r ih => exact ⟨.int i, r.map V.int, rfl, rfl, ih⟩
      refine ⟨a, ns.map V.int, rfl, ?_, hr _⟩
      rcases hS with z | z
      · exact .inl ⟨by simp [Mu.all], z⟩
      · exact .inr z
    · rw [show callN (L.tp P w K mg h).gs (L.tp P w K mg h).fs (n + 1) ld [.scr (ns.map .int)] [] = .ok (.bl true) [] from plain ns hns]
      exact fun μ' H' _ _ v hv => hv
  · have B := Lw.base (P := P) (w := w) (base := base) hb1 hb2 c hc
    have S := fn_step (ok_all B n) hl (B.df ld fl hl)
    rw [hp] at S
    have e : L.nm ld = fl.name := L.nm_eq hl
    have ea : (L.tp P w K mg base).G.fa ld = f := by show He.ga K (L.nm ld) = f; rw [e, ef]
    have ed : (L.tp P w K mg base).fd ld = fd := by
      show fdOf K (He.ga K (L.nm ld)) = fd
      rw [e, ← ef]; exact fdOf_eq F
    rw [ea, ed] at S
    exact noX S
end
end Ev

namespace Ev
open PySem
/- law solidseen_k24_moves_and_shapes_by_hand: the program as the evaluator has it, printed by gen.py -/
def top (i : Nat) : Stmt := PySem.Challenge.pw_solidseen_k24_moves_and_shapes_by_hand.main.body.getD i (.Pass ⟨0, 0, 0, 0⟩)
def f_is_number : Fn := ⟨"is_number", 1, ["thing"], (.cons
  (.ret (.and_ (.cons (.isi (.var 0) [.int]) (.cons (.not_ (.isi (.var 0) [.bool])) .nil))))
  .nil), false⟩
def f_is_from : Fn := ⟨"is_from", 2, ["thing", "least"], (.cons
  (.ret (.and_ (.cons (.call 0 (.cons (.var 0) .nil)) (.cons (.cmp .ge (.var 0) (.var 1)) .nil))))
  .nil), false⟩
def f_is_within : Fn := ⟨"is_within", 3, ["thing", "least", "most"], (.cons
  (.ret (.and_ (.cons (.call 0 (.cons (.var 0) .nil)) (.cons (.chain .le .le (.var 1) (.var 0) (.var 2)) .nil))))
  .nil), false⟩
def f_is_long : Fn := ⟨"is_long", 2, ["thing", "length"], (.cons
  (.ret (.and_ (.cons (.isi (.var 0) [.tuple]) (.cons (.cmp .eq (.prim .len false (.cons (.var 0) .nil)) (.var 1)) .nil))))
  .nil), false⟩
def f_tupled : Fn := ⟨"tupled", 1, ["value", "own"], (.cons
  (.ret (.ite (.isi (.var 0) [.list, .tuple]) (.prim .tuple false (.cons (.comp false [("own", 1)] (.name 1) (.e (.var 0)) .nil (.call 4 (.cons (.var 1) .nil))) .nil)) (.var 0)))
  .nil), false⟩
def f_ascends : Fn := ⟨"ascends", 1, ["row", "k"], (.cons
  (.ret (.prim .all false (.cons (.comp false [("k", 1)] (.name 1) (.range (.cons (.bin .sub false (.prim .len false (.cons (.var 0) .nil)) (.int 1)) .nil)) .nil (.cmp .lt (.idx (.var 0) (.var 1)) (.idx (.var 0) (.bin .add false (.var 1) (.int 1))))) .nil)))
  .nil), false⟩
def f_is_row : Fn := ⟨"is_row", 2, ["thing", "length", "own"], (.cons
  (.ret (.and_ (.cons (.call 3 (.cons (.var 0) (.cons (.var 1) .nil))) (.cons (.prim .all false (.cons (.comp false [("own", 2)] (.name 2) (.e (.var 0)) .nil (.call 0 (.cons (.var 2) .nil))) .nil)) .nil))))
  .nil), false⟩
def f_divisor : Fn := ⟨"divisor", 1, ["numbers", "found", "own"], (.cons
  (.set (.name 1) (.int 0))
  (.cons
  (.for_ (.name 2) (.e (.var 0)) (.cons
   (.set (.name 1) (.prim .gcd false (.cons (.var 1) (.cons (.var 2) .nil))))
   .nil))
  (.cons
  (.ret (.var 1))
  .nil))), false⟩
def f_is_fraction : Fn := ⟨"is_fraction", 1, ["thing"], (.cons
  (.iff (.or_ (.cons (.not_ (.call 3 (.cons (.var 0) (.cons (.int 2) .nil)))) (.cons (.not_ (.call 0 (.cons (.idx (.var 0) (.int 0)) .nil))) (.cons (.not_ (.call 1 (.cons (.idx (.var 0) (.int 1)) (.cons (.int 1) .nil)))) .nil)))) (.cons
   (.ret (.bl false))
   .nil) .nil)
  (.cons
  (.ret (.cmp .eq (.call 7 (.cons (.var 0) .nil)) (.int 1)))
  .nil)), false⟩
def f_sure_fraction : Fn := ⟨"sure_fraction", 1, ["one", "own"], (.cons
  (.set (.name 1) (.call 4 (.cons (.var 0) .nil)))
  (.cons
  (.iff (.not_ (.call 8 (.cons (.var 1) .nil))) (.cons
   (.raise 1)
   .nil) .nil)
  (.cons
  (.ret (.var 1))
  .nil))), false⟩
def f_made : Fn := ⟨"made", 2, ["above", "below", "by"], (.cons
  (.set (.name 2) (.call 7 (.cons (.tup (.cons (.var 0) (.cons (.var 1) .nil))) .nil)))
  (.cons
  (.ret (.ite (.cmp .gt (.var 1) (.int 0)) (.tup (.cons (.bin .fdiv false (.var 0) (.var 2)) (.cons (.bin .fdiv false (.var 1) (.var 2)) .nil))) (.tup (.cons (.bin .fdiv false (.neg (.var 0)) (.var 2)) (.cons (.bin .fdiv false (.neg (.var 1)) (.var 2)) .nil)))))
  .nil)), false⟩
def f_is_point : Fn := ⟨"is_point", 1, ["thing"], (.cons
  (.ret (.and_ (.cons (.call 6 (.cons (.var 0) (.cons (.int 4) .nil))) (.cons (.call 1 (.cons (.idx (.var 0) (.int 3)) (.cons (.int 1) .nil))) (.cons (.cmp .eq (.call 7 (.cons (.var 0) .nil)) (.int 1)) .nil)))))
  .nil), false⟩
def f_is_direction : Fn := ⟨"is_direction", 1, ["thing"], (.cons
  (.ret (.and_ (.cons (.call 6 (.cons (.var 0) (.cons (.int 3) .nil))) (.cons (.cmp .ne (.var 0) (.tup (.cons (.int 0) (.cons (.int 0) (.cons (.int 0) .nil))))) .nil))))
  .nil), false⟩
def f_is_ray : Fn := ⟨"is_ray", 1, ["thing"], (.cons
  (.ret (.and_ (.cons (.call 3 (.cons (.var 0) (.cons (.int 2) .nil))) (.cons (.call 11 (.cons (.idx (.var 0) (.int 0)) .nil)) (.cons (.call 12 (.cons (.idx (.var 0) (.int 1)) .nil)) .nil)))))
  .nil), false⟩
def f_sure_point : Fn := ⟨"sure_point", 1, ["point", "own"], (.cons
  (.set (.name 1) (.call 4 (.cons (.var 0) .nil)))
  (.cons
  (.iff (.not_ (.call 11 (.cons (.var 1) .nil))) (.cons
   (.raise 1)
   .nil) .nil)
  (.cons
  (.ret (.var 1))
  .nil))), false⟩
def f_sure_ray : Fn := ⟨"sure_ray", 1, ["ray", "own"], (.cons
  (.set (.name 1) (.call 4 (.cons (.var 0) .nil)))
  (.cons
  (.iff (.not_ (.call 13 (.cons (.var 1) .nil))) (.cons
   (.raise 1)
   .nil) .nil)
  (.cons
  (.ret (.var 1))
  .nil))), false⟩
def f_parted : Fn := ⟨"parted", 1, ["numbers", "by", "own"], (.cons
  (.set (.name 1) (.call 7 (.cons (.var 0) .nil)))
  (.cons
  (.ret (.prim .tuple false (.cons (.comp false [("own", 2)] (.name 2) (.e (.var 0)) .nil (.bin .fdiv false (.var 2) (.var 1))) .nil)))
  .nil)), false⟩
def f_spot : Fn := ⟨"spot", 2, ["numbers", "w"], (.cons
  (.ret (.call 16 (.cons (.tup (.cons (.star (.var 0)) (.cons (.var 1) .nil))) .nil)))
  .nil), false⟩
def f_cross : Fn := ⟨"cross", 2, ["near", "far", "a", "b", "c", "d", "e", "f"], (.cons
  (.set (.tup (.cons (.tup (.cons (.name 2) (.cons (.name 3) (.cons (.name 4) .nil)))) (.cons (.tup (.cons (.name 5) (.cons (.name 6) (.cons (.name 7) .nil)))) .nil))) (.tup (.cons (.var 0) (.cons (.var 1) .nil))))
  (.cons
  (.ret (.tup (.cons (.bin .sub false (.bin .mul false (.var 3) (.var 7)) (.bin .mul false (.var 4) (.var 6))) (.cons (.bin .sub false (.bin .mul false (.var 4) (.var 5)) (.bin .mul false (.var 2) (.var 7))) (.cons (.bin .sub false (.bin .mul false (.var 2) (.var 6)) (.bin .mul false (.var 3) (.var 5))) .nil)))))
  .nil)), false⟩
def f_dot : Fn := ⟨"dot", 2, ["near", "far"], (.cons
  (.ret (.bin .add false (.bin .add false (.bin .mul false (.idx (.var 0) (.int 0)) (.idx (.var 1) (.int 0))) (.bin .mul false (.idx (.var 0) (.int 1)) (.idx (.var 1) (.int 1)))) (.bin .mul false (.idx (.var 0) (.int 2)) (.idx (.var 1) (.int 2)))))
  .nil), false⟩
def f_way_between : Fn := ⟨"way_between", 2, ["one", "other", "near", "far"], (.cons
  (.ret (.prim .tuple false (.cons (.comp false [("near", 2), ("far", 3)] (.tup (.cons (.name 2) (.cons (.name 3) .nil))) (.zip (.slc false (.var 0) .nil (.cons (.int 3) .nil)) (.slc false (.var 1) .nil (.cons (.int 3) .nil))) .nil (.bin .sub false (.bin .mul false (.var 3) (.idx (.var 0) (.int 3))) (.bin .mul false (.var 2) (.idx (.var 1) (.int 3))))) .nil)))
  .nil), false⟩
def f_upright : Fn := ⟨"upright", 3, ["one", "other", "third"], (.cons
  (.ret (.call 18 (.cons (.call 20 (.cons (.var 0) (.cons (.var 1) .nil))) (.cons (.call 20 (.cons (.var 0) (.cons (.var 2) .nil))) .nil))))
  .nil), false⟩
def f_plane_through : Fn := ⟨"plane_through", 3, ["one", "other", "third", "up", "near", "far", "last", "number"], (.cons
  (.set (.tup (.cons (.name 4) (.cons (.name 5) (.cons (.name 6) .nil)))) (.tup (.cons (.call 14 (.cons (.var 0) .nil)) (.cons (.call 14 (.cons (.var 1) .nil)) (.cons (.call 14 (.cons (.var 2) .nil)) .nil)))))
  (.cons
  (.set (.name 3) (.call 21 (.cons (.var 4) (.cons (.var 5) (.cons (.var 6) .nil)))))
  (.cons
  (.iff (.cmp .eq (.var 3) (.tup (.cons (.int 0) (.cons (.int 0) (.cons (.int 0) .nil))))) (.cons
   (.raise 0)
   .nil) .nil)
  (.cons
  (.ret (.call 16 (.cons (.tup (.cons (.star (.comp false [("number", 7)] (.name 7) (.e (.var 3)) .nil (.bin .mul false (.var 7) (.idx (.var 4) (.int 3))))) (.cons (.call 19 (.cons (.var 3) (.cons (.slc false (.var 4) .nil (.cons (.int 3) .nil)) .nil))) .nil))) .nil)))
  .nil)))), false⟩
def f_is_wall : Fn := ⟨"is_wall", 1, ["thing", "own"], (.cons
  (.iff (.or_ (.cons (.not_ (.isi (.var 0) [.tuple])) (.cons (.cmp .lt (.prim .len false (.cons (.var 0) .nil)) (.int 4)) (.cons (.not_ (.prim .all false (.cons (.comp false [("own", 1)] (.name 1) (.e (.var 0)) .nil (.call 0 (.cons (.var 1) .nil))) .nil))) .nil)))) (.cons
   (.ret (.bl false))
   .nil) .nil)
  (.cons
  (.ret (.and_ (.cons (.prim .any false (.cons (.comp false [("own", 1)] (.name 1) (.e (.slc false (.var 0) .nil (.cons (.int 3) .nil))) .nil (.cmp .ne (.var 1) (.int 0))) .nil)) (.cons (.cmp .eq (.call 7 (.cons (.var 0) .nil)) (.int 1)) .nil))))
  .nil)), false⟩
def f_sure_wall : Fn := ⟨"sure_wall", 1, ["wall", "own"], (.cons
  (.set (.name 1) (.call 4 (.cons (.var 0) .nil)))
  (.cons
  (.iff (.not_ (.call 23 (.cons (.var 1) .nil))) (.cons
   (.raise 1)
   .nil) .nil)
  (.cons
  (.ret (.var 1))
  .nil))), false⟩
def f_are_values : Fn := ⟨"are_values", 1, ["thing", "own"], (.cons
  (.ret (.and_ (.cons (.isi (.var 0) [.tuple]) (.cons (.prim .all false (.cons (.comp false [("own", 1)] (.name 1) (.e (.var 0)) .nil (.call 8 (.cons (.var 1) .nil))) .nil)) .nil))))
  .nil), false⟩
def f_sure_values : Fn := ⟨"sure_values", 2, ["sizes", "many", "own"], (.cons
  (.set (.name 2) (.call 4 (.cons (.var 0) .nil)))
  (.cons
  (.iff (.or_ (.cons (.not_ (.call 25 (.cons (.var 2) .nil))) (.cons (.and_ (.cons (.isn true (.var 1)) (.cons (.cmp .ne (.prim .len false (.cons (.var 2) .nil)) (.var 1)) .nil))) .nil))) (.cons
   (.raise 1)
   .nil) .nil)
  (.cons
  (.ret (.var 2))
  .nil))), false⟩
def f_sure_case : Fn := ⟨"sure_case", 2, ["case", "many", "own"], (.cons
  (.set (.name 2) (.call 4 (.cons (.var 0) .nil)))
  (.cons
  (.iff (.or_ (.cons (.not_ (.call 3 (.cons (.var 2) (.cons (.int 2) .nil)))) (.cons (.not_ (.call 11 (.cons (.idx (.var 2) (.int 1)) .nil))) .nil))) (.cons
   (.raise 1)
   .nil) .nil)
  (.cons
  (.expr (.call 26 (.cons (.idx (.var 2) (.int 0)) (.cons (.var 1) .nil))))
  (.cons
  (.ret (.var 2))
  .nil)))), false⟩
def f_least_wall : Fn := ⟨"least_wall", 1, ["numbers", "most", "own"], (.cons
  (.set (.name 1) (.call 7 (.cons (.var 0) .nil)))
  (.cons
  (.ret (.prim .tuple false (.cons (.comp false [("own", 2)] (.name 2) (.e (.var 0)) .nil (.bin .fdiv false (.var 2) (.var 1))) .nil)))
  .nil)), false⟩
def f_other_side : Fn := ⟨"other_side", 1, ["wall", "own"], (.cons
  (.ret (.prim .tuple false (.cons (.comp false [("own", 1)] (.name 1) (.e (.var 0)) .nil (.neg (.var 1))) .nil)))
  .nil), false⟩
def f_sum_at : Fn := ⟨"sum_at", 2, ["told", "sizes", "above", "below", "factor", "high", "low"], (.cons
  (.set (.tup (.cons (.name 2) (.cons (.name 3) .nil))) (.tup (.cons (.idx (.var 0) (.int 0)) (.cons (.int 1) .nil))))
  (.cons
  (.for_ (.tup (.cons (.name 4) (.cons (.tup (.cons (.name 5) (.cons (.name 6) .nil))) .nil))) (.zip (.slc false (.var 0) (.cons (.int 1) .nil) .nil) (.var 1)) (.cons
   (.set (.tup (.cons (.name 2) (.cons (.name 3) .nil))) (.tup (.cons (.bin .add false (.bin .mul false (.var 2) (.var 6)) (.bin .mul false (.bin .mul false (.var 4) (.var 5)) (.var 3))) (.cons (.bin .mul false (.var 3) (.var 6)) .nil))))
   .nil))
  (.cons
  (.ret (.tup (.cons (.var 2) (.cons (.var 3) .nil))))
  .nil))), false⟩
def f_is_made : Fn := ⟨"is_made", 1, ["thing"], (.cons
  (.iff (.or_ (.cons (.not_ (.isi (.var 0) [.tuple])) (.cons (.cmp .eq (.prim .len false (.cons (.var 0) .nil)) (.int 0)) (.cons (.not_ (.isi (.idx (.var 0) (.int 0)) [.str])) .nil)))) (.cons
   (.ret (.bl false))
   .nil) .nil)
  (.cons
  (.iff (.cmp .isin (.idx (.var 0) (.int 0)) (.gv 0)) (.cons
   (.ret (.cmp .eq (.prim .len false (.cons (.var 0) .nil)) (.int 1)))
   .nil) .nil)
  (.cons
  (.iff (.cmp .isin (.idx (.var 0) (.int 0)) (.gv 1)) (.cons
   (.ret (.and_ (.cons (.cmp .eq (.prim .len false (.cons (.var 0) .nil)) (.int 3)) (.cons (.call 31 (.cons (.idx (.var 0) (.int 1)) .nil)) (.cons (.call 31 (.cons (.idx (.var 0) (.int 2)) .nil)) .nil)))))
   .nil) .nil)
  (.cons
  (.iff (.cmp .ne (.prim .len false (.cons (.var 0) .nil)) (.int 2)) (.cons
   (.ret (.bl false))
   .nil) .nil)
  (.cons
  (.ret (.ite (.cmp .eq (.idx (.var 0) (.int 0)) (.str [119, 97, 108, 108])) (.call 23 (.cons (.idx (.var 0) (.int 1)) .nil)) (.and_ (.cons (.cmp .eq (.idx (.var 0) (.int 0)) (.str [110, 111, 116])) (.cons (.call 31 (.cons (.idx (.var 0) (.int 1)) .nil)) .nil)))))
  .nil))))), false⟩
def f_walls_in : Fn := ⟨"walls_in", 1, ["solid", "found", "part"], (.cons
  (.iff (.cmp .eq (.idx (.var 0) (.int 0)) (.str [119, 97, 108, 108])) (.cons
   (.ret (.lst false (.cons (.idx (.var 0) (.int 1)) .nil)))
   .nil) .nil)
  (.cons
  (.set (.name 1) (.lst true .nil))
  (.cons
  (.for_ (.name 2) (.e (.slc false (.var 0) (.cons (.int 1) .nil) .nil)) (.cons
   (.expr (.meth .extend (.var 1) (.cons (.call 32 (.cons (.var 2) .nil)) .nil)))
   .nil))
  (.cons
  (.ret (.var 1))
  .nil)))), false⟩
def f_is_solid : Fn := ⟨"is_solid", 1, ["thing", "wall"], (.cons
  (.ret (.and_ (.cons (.call 31 (.cons (.var 0) .nil)) (.cons (.cmp .lt (.lens (.comp false [("wall", 1)] (.name 1) (.e (.call 32 (.cons (.var 0) .nil))) .nil (.prim .len false (.cons (.var 1) .nil)))) (.int 2)) .nil))))
  .nil), false⟩
def f_sure_solid : Fn := ⟨"sure_solid", 1, ["solid", "own"], (.cons
  (.set (.name 1) (.call 4 (.cons (.var 0) .nil)))
  (.cons
  (.iff (.not_ (.call 33 (.cons (.var 1) .nil))) (.cons
   (.raise 1)
   .nil) .nil)
  (.cons
  (.ret (.var 1))
  .nil))), false⟩
def f_letters_in : Fn := ⟨"letters_in", 1, ["solid", "walls"], (.cons
  (.set (.name 1) (.call 32 (.cons (.var 0) .nil)))
  (.cons
  (.ret (.ite (.cmp .gt (.prim .len false (.cons (.var 1) .nil)) (.int 0)) (.bin .sub false (.prim .len false (.cons (.idx (.var 1) (.int 0)) .nil)) (.int 4)) .non))
  .nil)), false⟩
def f_together : Fn := ⟨"together", 3, ["word", "empty", "solids", "own", "found", "part"], (.cons
  (.set (.name 3) (.call 4 (.cons (.var 2) .nil)))
  (.cons
  (.iff (.or_ (.cons (.not_ (.isi (.var 3) [.tuple])) (.cons (.not_ (.prim .all false (.cons (.comp false [("part", 5)] (.name 5) (.e (.var 3)) .nil (.call 33 (.cons (.var 5) .nil))) .nil))) .nil))) (.cons
   (.raise 1)
   .nil) .nil)
  (.cons
  (.iff (.cmp .gt (.lens (.comp false [("part", 5)] (.name 5) (.e (.var 3)) (.cons (.isn true (.call 35 (.cons (.var 5) .nil))) .nil) (.call 35 (.cons (.var 5) .nil)))) (.int 1)) (.cons
   (.raise 1)
   .nil) .nil)
  (.cons
  (.set (.name 4) (.ite (.cmp .gt (.prim .len false (.cons (.var 3) .nil)) (.int 0)) (.idx (.var 3) (.int 0)) (.var 1)))
  (.cons
  (.for_ (.name 5) (.e (.slc false (.var 3) (.cons (.int 1) .nil) .nil)) (.cons
   (.set (.name 4) (.tup (.cons (.var 0) (.cons (.var 4) (.cons (.var 5) .nil)))))
   .nil))
  (.cons
  (.ret (.var 4))
  .nil)))))), false⟩
def f_both_of : Fn := ⟨"both_of", 1, ["solids"], (.cons
  (.ret (.call 36 (.cons (.str [98, 111, 116, 104]) (.cons (.tup (.cons (.str [97, 108, 108]) .nil)) (.cons (.var 0) .nil)))))
  .nil), false⟩
def f_all_numbers : Fn := ⟨"all_numbers", 2, ["rows", "below", "found", "row"], (.cons
  (.set (.name 2) (.lst true (.cons (.var 1) .nil)))
  (.cons
  (.for_ (.name 3) (.e (.var 0)) (.cons
   (.expr (.meth .extend (.var 2) (.cons (.var 3) .nil)))
   .nil))
  (.cons
  (.ret (.var 2))
  .nil))), false⟩
def f_ways_of : Fn := ⟨"ways_of", 1, ["rows", "row"], (.cons
  (.ret (.comp false [("row", 1)] (.name 1) (.e (.var 0)) .nil (.slc false (.var 1) .nil (.cons (.int 3) .nil))))
  .nil), false⟩
def f_determinant : Fn := ⟨"determinant", 1, ["rows", "one", "other", "third"], (.cons
  (.set (.tup (.cons (.name 1) (.cons (.name 2) (.cons (.name 3) .nil)))) (.call 39 (.cons (.var 0) .nil)))
  (.cons
  (.ret (.call 19 (.cons (.var 1) (.cons (.call 18 (.cons (.var 2) (.cons (.var 3) .nil))) .nil))))
  .nil)), false⟩
def f_columns_back : Fn := ⟨"columns_back", 1, ["rows", "one", "other", "third"], (.cons
  (.set (.tup (.cons (.name 1) (.cons (.name 2) (.cons (.name 3) .nil)))) (.call 39 (.cons (.var 0) .nil)))
  (.cons
  (.ret (.lst false (.cons (.call 18 (.cons (.var 2) (.cons (.var 3) .nil))) (.cons (.call 18 (.cons (.var 3) (.cons (.var 1) .nil))) (.cons (.call 18 (.cons (.var 1) (.cons (.var 2) .nil))) .nil)))))
  .nil)), false⟩
def f_is_move : Fn := ⟨"is_move", 1, ["thing", "rows", "row"], (.cons
  (.iff (.or_ (.cons (.not_ (.call 3 (.cons (.var 0) (.cons (.int 2) .nil)))) (.cons (.not_ (.call 3 (.cons (.idx (.var 0) (.int 0)) (.cons (.int 3) .nil)))) (.cons (.not_ (.call 1 (.cons (.idx (.var 0) (.int 1)) (.cons (.int 1) .nil)))) .nil)))) (.cons
   (.ret (.bl false))
   .nil) .nil)
  (.cons
  (.set (.name 1) (.idx (.var 0) (.int 0)))
  (.cons
  (.iff (.or_ (.cons (.not_ (.isi (.idx (.var 1) (.int 0)) [.tuple])) (.cons (.cmp .lt (.prim .len false (.cons (.idx (.var 1) (.int 0)) .nil)) (.int 4)) (.cons (.not_ (.prim .all false (.cons (.comp false [("row", 2)] (.name 2) (.e (.var 1)) .nil (.call 6 (.cons (.var 2) (.cons (.prim .len false (.cons (.idx (.var 1) (.int 0)) .nil)) .nil)))) .nil))) .nil)))) (.cons
   (.ret (.bl false))
   .nil) .nil)
  (.cons
  (.ret (.and_ (.cons (.cmp .eq (.call 7 (.cons (.call 38 (.cons (.var 1) (.cons (.idx (.var 0) (.int 1)) .nil))) .nil)) (.int 1)) (.cons (.cmp .ne (.call 40 (.cons (.var 1) .nil)) (.int 0)) .nil))))
  .nil)))), false⟩
def f_letters_in_move : Fn := ⟨"letters_in_move", 1, ["move"], (.cons
  (.ret (.bin .sub false (.prim .len false (.cons (.idx (.idx (.var 0) (.int 0)) (.int 0)) .nil)) (.int 4)))
  .nil), false⟩
def f_sure_move : Fn := ⟨"sure_move", 2, ["move", "many", "own"], (.cons
  (.set (.name 2) (.call 4 (.cons (.var 0) .nil)))
  (.cons
  (.iff (.or_ (.cons (.not_ (.call 42 (.cons (.var 2) .nil))) (.cons (.and_ (.cons (.isn true (.var 1)) (.cons (.cmp .ne (.call 43 (.cons (.var 2) .nil)) (.var 1)) .nil))) .nil))) (.cons
   (.raise 1)
   .nil) .nil)
  (.cons
  (.ret (.var 2))
  .nil))), false⟩
def f_least_move : Fn := ⟨"least_move", 2, ["rows", "below", "most", "by", "row", "own"], (.cons
  (.set (.name 2) (.call 7 (.cons (.call 38 (.cons (.var 0) (.cons (.var 1) .nil))) .nil)))
  (.cons
  (.set (.name 3) (.ite (.cmp .gt (.var 1) (.int 0)) (.var 2) (.neg (.var 2))))
  (.cons
  (.ret (.tup (.cons (.prim .tuple false (.cons (.comp false [("row", 4)] (.name 4) (.e (.var 0)) .nil (.prim .tuple false (.cons (.comp false [("own", 5)] (.name 5) (.e (.var 4)) .nil (.bin .fdiv false (.var 5) (.var 3))) .nil))) .nil)) (.cons (.bin .fdiv false (.var 1) (.var 3)) .nil))))
  .nil))), false⟩
def f_sure_many : Fn := ⟨"sure_many", 1, ["number"], (.cons
  (.iff (.not_ (.call 1 (.cons (.var 0) (.cons (.int 0) .nil)))) (.cons
   (.raise 1)
   .nil) .nil)
  (.cons
  (.ret (.var 0))
  .nil)), false⟩
def f_widened : Fn := ⟨"widened", 3, ["ways", "number", "below", "way"], (.cons
  (.ret (.call 45 (.cons (.comp false [("way", 3)] (.name 3) (.e (.var 0)) .nil (.bin .add false (.prim .tuple false (.cons (.var 3) .nil)) (.bin .mul false (.tup (.cons (.int 0) .nil)) (.bin .add false (.var 1) (.int 1))))) (.cons (.var 2) .nil))))
  .nil), false⟩
def f_upright_ways : Fn := ⟨"upright_ways", 3, ["one", "other", "third"], (.cons
  (.ret (.lst false (.cons (.tup (.cons (.var 0) (.cons (.int 0) (.cons (.int 0) .nil)))) (.cons (.tup (.cons (.int 0) (.cons (.var 1) (.cons (.int 0) .nil)))) (.cons (.tup (.cons (.int 0) (.cons (.int 0) (.cons (.var 2) .nil)))) .nil)))))
  .nil), false⟩
def f_stays : Fn := ⟨"stays", 1, ["number"], (.cons
  (.ret (.call 47 (.cons (.call 48 (.cons (.int 1) (.cons (.int 1) (.cons (.int 1) .nil)))) (.cons (.call 46 (.cons (.var 0) .nil)) (.cons (.int 1) .nil)))))
  .nil), false⟩
def f_is_sum : Fn := ⟨"is_sum", 1, ["thing", "own"], (.cons
  (.ret (.and_ (.cons (.isi (.var 0) [.tuple]) (.cons (.cmp .gt (.prim .len false (.cons (.var 0) .nil)) (.int 0)) (.cons (.prim .all false (.cons (.comp false [("own", 1)] (.name 1) (.e (.var 0)) .nil (.call 0 (.cons (.var 1) .nil))) .nil)) .nil)))))
  .nil), false⟩
def f_are_sums : Fn := ⟨"are_sums", 2, ["thing", "many", "own"], (.cons
  (.ret (.and_ (.cons (.call 3 (.cons (.var 0) (.cons (.var 1) .nil))) (.cons (.prim .all false (.cons (.comp false [("own", 2)] (.name 2) (.e (.var 0)) .nil (.call 50 (.cons (.var 2) .nil))) .nil)) (.cons (.cmp .eq (.lens (.comp false [("own", 2)] (.name 2) (.e (.var 0)) .nil (.prim .len false (.cons (.var 2) .nil)))) (.int 1)) .nil)))))
  .nil), false⟩
def f_shifted : Fn := ⟨"shifted", 2, ["sums", "below", "own", "way", "told"], (.cons
  (.set (.name 2) (.call 4 (.cons (.var 0) .nil)))
  (.cons
  (.iff (.or_ (.cons (.not_ (.call 51 (.cons (.var 2) (.cons (.int 3) .nil)))) (.cons (.not_ (.call 1 (.cons (.var 1) (.cons (.int 1) .nil)))) .nil))) (.cons
   (.raise 1)
   .nil) .nil)
  (.cons
  (.ret (.call 45 (.cons (.comp false [("way", 3), ("told", 4)] (.tup (.cons (.name 3) (.cons (.name 4) .nil))) (.zip (.call 48 (.cons (.var 1) (.cons (.var 1) (.cons (.var 1) .nil)))) (.var 2)) .nil (.bin .add false (.var 3) (.var 4))) (.cons (.var 1) .nil))))
  .nil))), false⟩
def f_grown : Fn := ⟨"grown", 2, ["factor", "number", "above", "below"], (.cons
  (.set (.tup (.cons (.name 2) (.cons (.name 3) .nil))) (.call 9 (.cons (.var 0) .nil)))
  (.cons
  (.iff (.cmp .eq (.var 2) (.int 0)) (.cons
   (.raise 1)
   .nil) .nil)
  (.cons
  (.ret (.call 47 (.cons (.call 48 (.cons (.var 2) (.cons (.var 2) (.cons (.var 2) .nil)))) (.cons (.call 46 (.cons (.var 1) .nil)) (.cons (.var 3) .nil)))))
  .nil))), false⟩
def f_turned : Fn := ⟨"turned", 4, ["axis", "across", "up", "number", "ways", "many", "whole", "near", "far", "_"], (.cons
  (.iff (.or_ (.cons (.not_ (.call 2 (.cons (.var 0) (.cons (.int 0) (.cons (.int 2) .nil))))) (.cons (.not_ (.call 0 (.cons (.var 1) .nil))) (.cons (.not_ (.call 0 (.cons (.var 2) .nil))) (.cons (.and_ (.cons (.cmp .eq (.var 1) (.int 0)) (.cons (.cmp .eq (.var 2) (.int 0)) .nil))) .nil))))) (.cons
   (.raise 1)
   .nil) .nil)
  (.cons
  (.set (.tup (.cons (.name 5) (.cons (.name 6) .nil))) (.tup (.cons (.call 46 (.cons (.var 3) .nil)) (.cons (.bin .add false (.bin .mul false (.var 1) (.var 1)) (.bin .mul false (.var 2) (.var 2))) .nil))))
  (.cons
  (.set (.tup (.cons (.name 7) (.cons (.name 8) .nil))) (.tup (.cons (.bin .mod false (.bin .add false (.var 0) (.int 1)) (.int 3)) (.cons (.bin .mod false (.bin .add false (.var 0) (.int 2)) (.int 3)) .nil))))
  (.cons
  (.set (.name 4) (.comp false [("_", 9)] (.name 9) (.range (.cons (.int 3) .nil)) .nil (.lst true (.cons (.int 0) (.cons (.int 0) (.cons (.int 0) .nil))))))
  (.cons
  (.set (.tup (.cons (.sub (.idx (.var 4) (.var 0)) (.var 0)) (.cons (.sub (.idx (.var 4) (.var 7)) (.var 7)) (.cons (.sub (.idx (.var 4) (.var 8)) (.var 8)) .nil)))) (.tup (.cons (.var 6) (.cons (.bin .sub false (.bin .mul false (.var 1) (.var 1)) (.bin .mul false (.var 2) (.var 2))) (.cons (.bin .sub false (.bin .mul false (.var 1) (.var 1)) (.bin .mul false (.var 2) (.var 2))) .nil)))))
  (.cons
  (.set (.tup (.cons (.sub (.idx (.var 4) (.var 7)) (.var 8)) (.cons (.sub (.idx (.var 4) (.var 8)) (.var 7)) .nil))) (.tup (.cons (.bin .mul false (.bin .mul false (.neg (.int 2)) (.var 1)) (.var 2)) (.cons (.bin .mul false (.bin .mul false (.int 2) (.var 1)) (.var 2)) .nil))))
  (.cons
  (.ret (.call 47 (.cons (.var 4) (.cons (.var 5) (.cons (.var 6) .nil)))))
  .nil))))))), false⟩
def f_mirrored : Fn := ⟨"mirrored", 2, ["axis", "number", "signs", "own"], (.cons
  (.iff (.not_ (.call 2 (.cons (.var 0) (.cons (.int 0) (.cons (.int 2) .nil))))) (.cons
   (.raise 1)
   .nil) .nil)
  (.cons
  (.set (.name 2) (.comp false [("own", 3)] (.name 3) (.range (.cons (.int 3) .nil)) .nil (.ite (.cmp .eq (.var 3) (.var 0)) (.neg (.int 1)) (.int 1))))
  (.cons
  (.ret (.call 47 (.cons (.call 48 (.cons (.idx (.var 2) (.int 0)) (.cons (.idx (.var 2) (.int 1)) (.cons (.idx (.var 2) (.int 2)) .nil)))) (.cons (.call 46 (.cons (.var 1) .nil)) (.cons (.int 1) .nil)))))
  .nil))), false⟩
def f_mixed : Fn := ⟨"mixed", 2, ["factors", "rows", "place", "factor", "row"], (.cons
  (.ret (.comp false [("place", 2)] (.name 2) (.range (.cons (.prim .len false (.cons (.idx (.var 1) (.int 0)) .nil)) .nil)) .nil (.prim .sum false (.cons (.comp false [("factor", 3), ("row", 4)] (.tup (.cons (.name 3) (.cons (.name 4) .nil))) (.zip (.var 0) (.var 1)) .nil (.bin .mul false (.var 3) (.idx (.var 4) (.var 2)))) .nil))))
  .nil), false⟩
def f_put_together : Fn := ⟨"put_together", 2, ["move", "other", "own", "far", "found", "row", "told", "one", "more"], (.cons
  (.set (.name 2) (.call 44 (.cons (.var 0) (.cons .non .nil))))
  (.cons
  (.set (.name 3) (.call 44 (.cons (.var 1) (.cons (.call 43 (.cons (.var 2) .nil)) .nil))))
  (.cons
  (.set (.name 4) (.lst true .nil))
  (.cons
  (.for_ (.name 5) (.e (.idx (.var 3) (.int 0))) (.cons
   (.set (.name 6) (.call 56 (.cons (.slc false (.var 5) .nil (.cons (.int 3) .nil)) (.cons (.idx (.var 2) (.int 0)) .nil))))
   (.cons
   (.expr (.meth .append (.var 4) (.cons (.bin .add false (.slc false (.var 6) .nil (.cons (.int 3) .nil)) (.comp false [("one", 7), ("more", 8)] (.tup (.cons (.name 7) (.cons (.name 8) .nil))) (.zip (.slc false (.var 6) (.cons (.int 3) .nil) .nil) (.slc false (.var 5) (.cons (.int 3) .nil) .nil)) .nil (.bin .add false (.var 7) (.bin .mul false (.idx (.var 2) (.int 1)) (.var 8))))) .nil)))
   .nil)))
  (.cons
  (.ret (.call 45 (.cons (.var 4) (.cons (.bin .mul false (.idx (.var 2) (.int 1)) (.idx (.var 3) (.int 1))) .nil))))
  .nil))))), false⟩
def f_back : Fn := ⟨"back", 1, ["move", "place", "rows", "below", "columns", "found", "factors", "told", "column", "row", "own"], (.cons
  (.set (.tup (.cons (.name 2) (.cons (.name 3) .nil))) (.call 44 (.cons (.var 0) (.cons .non .nil))))
  (.cons
  (.set (.tup (.cons (.name 4) (.cons (.name 5) .nil))) (.tup (.cons (.call 41 (.cons (.var 2) .nil)) (.cons (.lst true .nil) .nil))))
  (.cons
  (.for_ (.name 1) (.range (.cons (.int 3) .nil)) (.cons
   (.set (.name 6) (.comp false [("column", 8)] (.name 8) (.e (.var 4)) .nil (.idx (.var 8) (.var 1))))
   (.cons
   (.set (.name 7) (.call 56 (.cons (.var 6) (.cons (.comp false [("row", 9)] (.name 9) (.e (.var 2)) .nil (.slc false (.var 9) (.cons (.int 3) .nil) .nil)) .nil))))
   (.cons
   (.expr (.meth .append (.var 5) (.cons (.bin .add false (.comp false [("own", 10)] (.name 10) (.e (.var 6)) .nil (.bin .mul false (.var 3) (.var 10))) (.comp false [("own", 10)] (.name 10) (.e (.var 7)) .nil (.neg (.var 10)))) .nil)))
   .nil))))
  (.cons
  (.ret (.call 45 (.cons (.var 5) (.cons (.call 40 (.cons (.var 2) .nil)) .nil))))
  .nil)))), false⟩
def f_growth : Fn := ⟨"growth", 1, ["move", "rows", "below"], (.cons
  (.set (.tup (.cons (.name 1) (.cons (.name 2) .nil))) (.call 44 (.cons (.var 0) (.cons .non .nil))))
  (.cons
  (.ret (.call 10 (.cons (.prim .abs false (.cons (.call 40 (.cons (.var 1) .nil)) .nil)) (.cons (.bin .pow false (.var 2) (.int 3)) .nil))))
  .nil)), false⟩
def f_rows_at : Fn := ⟨"rows_at", 2, ["move", "sizes", "row", "found", "whole", "above"], (.cons
  (.set (.tup (.cons (.name 3) (.cons (.name 4) .nil))) (.tup (.cons (.lst true .nil) (.cons (.int 1) .nil))))
  (.cons
  (.for_ (.name 2) (.e (.idx (.var 0) (.int 0))) (.cons
   (.set (.tup (.cons (.name 5) (.cons (.name 4) .nil))) (.call 30 (.cons (.slc false (.var 2) (.cons (.int 3) .nil) .nil) (.cons (.var 1) .nil))))
   (.cons
   (.expr (.meth .append (.var 3) (.cons (.tup (.cons (.bin .mul false (.idx (.var 2) (.int 0)) (.var 4)) (.cons (.bin .mul false (.idx (.var 2) (.int 1)) (.var 4)) (.cons (.bin .mul false (.idx (.var 2) (.int 2)) (.var 4)) (.cons (.var 5) .nil))))) .nil)))
   .nil)))
  (.cons
  (.ret (.tup (.cons (.var 3) (.cons (.bin .mul false (.idx (.var 0) (.int 1)) (.var 4)) .nil))))
  .nil))), false⟩
def f_move_at : Fn := ⟨"move_at", 2, ["move", "sizes", "own", "rows", "below"], (.cons
  (.set (.name 2) (.call 44 (.cons (.var 0) (.cons .non .nil))))
  (.cons
  (.set (.tup (.cons (.name 3) (.cons (.name 4) .nil))) (.call 60 (.cons (.var 2) (.cons (.call 26 (.cons (.var 1) (.cons (.call 43 (.cons (.var 2) .nil)) .nil))) .nil))))
  (.cons
  (.ret (.call 45 (.cons (.var 3) (.cons (.var 4) .nil))))
  .nil))), false⟩
def f_case_moved : Fn := ⟨"case_moved", 2, ["move", "case", "own", "numbers", "sizes", "spotted", "rows", "below", "row"], (.cons
  (.set (.name 2) (.call 44 (.cons (.var 0) (.cons .non .nil))))
  (.cons
  (.set (.tup (.cons (.name 4) (.cons (.name 5) .nil))) (.call 27 (.cons (.var 1) (.cons (.call 43 (.cons (.var 2) .nil)) .nil))))
  (.cons
  (.set (.tup (.cons (.name 6) (.cons (.name 7) .nil))) (.call 60 (.cons (.var 2) (.cons (.var 4) .nil))))
  (.cons
  (.set (.name 3) (.comp false [("row", 8)] (.name 8) (.e (.var 6)) .nil (.bin .add false (.call 19 (.cons (.slc false (.var 8) .nil (.cons (.int 3) .nil)) (.cons (.slc false (.var 5) .nil (.cons (.int 3) .nil)) .nil))) (.bin .mul false (.idx (.var 8) (.int 3)) (.idx (.var 5) (.int 3))))))
  (.cons
  (.ret (.tup (.cons (.var 4) (.cons (.call 17 (.cons (.var 3) (.cons (.bin .mul false (.var 7) (.idx (.var 5) (.int 3))) .nil))) .nil))))
  .nil))))), false⟩
def f_wall_in : Fn := ⟨"wall_in", 2, ["move", "wall", "shift", "numbers", "rows", "below", "whole", "told", "column", "row", "own", "more"], (.cons
  (.set (.tup (.cons (.name 4) (.cons (.name 5) .nil))) (.var 0))
  (.cons
  (.set (.tup (.cons (.name 6) (.cons (.name 7) .nil))) (.tup (.cons (.call 40 (.cons (.var 4) .nil)) (.cons (.comp false [("column", 8)] (.name 8) (.e (.call 41 (.cons (.var 4) .nil))) .nil (.call 19 (.cons (.slc false (.var 1) .nil (.cons (.int 3) .nil)) (.cons (.var 8) .nil)))) .nil))))
  (.cons
  (.set (.name 2) (.call 56 (.cons (.var 7) (.cons (.comp false [("row", 9)] (.name 9) (.e (.var 4)) .nil (.slc false (.var 9) (.cons (.int 3) .nil) .nil)) .nil))))
  (.cons
  (.set (.name 3) (.bin .add false (.comp false [("own", 10)] (.name 10) (.e (.var 7)) .nil (.bin .mul false (.var 5) (.var 10))) (.comp false [("own", 10), ("more", 11)] (.tup (.cons (.name 10) (.cons (.name 11) .nil))) (.zip (.slc false (.var 1) (.cons (.int 3) .nil) .nil) (.var 2)) .nil (.bin .add false (.bin .mul false (.var 6) (.var 10)) (.var 11)))))
  (.cons
  (.ret (.call 28 (.cons (.ite (.cmp .gt (.var 6) (.int 0)) (.var 3) (.comp false [("own", 10)] (.name 10) (.e (.var 3)) .nil (.neg (.var 10)))) .nil)))
  .nil))))), false⟩
def f_wall_moved : Fn := ⟨"wall_moved", 2, ["move", "wall", "own", "told"], (.cons
  (.set (.tup (.cons (.name 2) (.cons (.name 3) .nil))) (.tup (.cons (.call 44 (.cons (.var 0) (.cons .non .nil))) (.cons (.call 24 (.cons (.var 1) .nil)) .nil))))
  (.cons
  (.iff (.cmp .ne (.bin .sub false (.prim .len false (.cons (.var 3) .nil)) (.int 4)) (.call 43 (.cons (.var 2) .nil))) (.cons
   (.raise 1)
   .nil) .nil)
  (.cons
  (.ret (.call 63 (.cons (.var 2) (.cons (.var 3) .nil))))
  .nil))), false⟩
def f_solid_in : Fn := ⟨"solid_in", 2, ["move", "solid", "part"], (.cons
  (.iff (.cmp .eq (.idx (.var 1) (.int 0)) (.str [119, 97, 108, 108])) (.cons
   (.ret (.tup (.cons (.str [119, 97, 108, 108]) (.cons (.call 63 (.cons (.var 0) (.cons (.idx (.var 1) (.int 1)) .nil))) .nil))))
   .nil) .nil)
  (.cons
  (.ret (.bin .add false (.tup (.cons (.idx (.var 1) (.int 0)) .nil)) (.prim .tuple false (.cons (.comp false [("part", 2)] (.name 2) (.e (.slc false (.var 1) (.cons (.int 1) .nil) .nil)) .nil (.call 65 (.cons (.var 0) (.cons (.var 2) .nil)))) .nil))))
  .nil)), false⟩
def f_solid_moved : Fn := ⟨"solid_moved", 2, ["move", "solid", "own", "told"], (.cons
  (.set (.tup (.cons (.name 2) (.cons (.name 3) .nil))) (.tup (.cons (.call 44 (.cons (.var 0) (.cons .non .nil))) (.cons (.call 34 (.cons (.var 1) .nil)) .nil))))
  (.cons
  (.iff (.cmp .notin (.call 35 (.cons (.var 3) .nil)) (.tup (.cons .non (.cons (.call 43 (.cons (.var 2) .nil)) .nil)))) (.cons
   (.raise 1)
   .nil) .nil)
  (.cons
  (.ret (.call 65 (.cons (.var 2) (.cons (.var 3) .nil))))
  .nil))), false⟩
def f_ray_moved : Fn := ⟨"ray_moved", 2, ["move", "ray", "gone", "own", "start", "way", "row"], (.cons
  (.set (.tup (.cons (.name 3) (.cons (.tup (.cons (.name 4) (.cons (.name 5) .nil))) .nil))) (.tup (.cons (.call 44 (.cons (.var 0) (.cons (.int 0) .nil))) (.cons (.call 15 (.cons (.var 1) .nil)) .nil))))
  (.cons
  (.set (.name 2) (.idx (.call 62 (.cons (.var 3) (.cons (.tup (.cons (.tup .nil) (.cons (.var 4) .nil))) .nil))) (.int 1)))
  (.cons
  (.ret (.tup (.cons (.tup (.cons (.var 2) (.cons (.prim .tuple false (.cons (.comp false [("row", 6)] (.name 6) (.e (.idx (.var 3) (.int 0))) .nil (.call 19 (.cons (.slc false (.var 6) .nil (.cons (.int 3) .nil)) (.cons (.var 5) .nil)))) .nil)) .nil))) (.cons (.tup (.cons (.int 1) (.cons (.idx (.var 3) (.int 1)) .nil))) .nil))))
  .nil))), false⟩
def f_together_of : Fn := ⟨"together_of", 1, ["walls", "wall"], (.cons
  (.ret (.call 37 (.cons (.prim .tuple false (.cons (.comp false [("wall", 1)] (.name 1) (.e (.sset false (.var 0))) .nil (.tup (.cons (.str [119, 97, 108, 108]) (.cons (.var 1) .nil)))) .nil)) .nil)))
  .nil), false⟩
def f_two_walls : Fn := ⟨"two_walls", 4, ["axis", "low", "high", "below", "gaps", "way", "own", "more"], (.cons
  (.set (.name 4) (.comp false [("own", 6), ("more", 7)] (.tup (.cons (.name 6) (.cons (.name 7) .nil))) (.zip (.var 1) (.var 2)) .nil (.bin .sub false (.var 7) (.var 6))))
  (.cons
  (.iff (.and_ (.cons (.cmp .le (.idx (.var 4) (.int 0)) (.int 0)) (.cons (.cmp .eq (.slc false (.var 4) (.cons (.int 1) .nil) .nil) (.bin .mul false (.lst false (.cons (.int 0) .nil)) (.bin .sub false (.prim .len false (.cons (.var 4) .nil)) (.int 1)))) .nil))) (.cons
   (.raise 0)
   .nil) .nil)
  (.cons
  (.set (.name 5) (.comp false [("own", 6)] (.name 6) (.range (.cons (.int 3) .nil)) .nil (.ite (.cmp .eq (.var 6) (.var 0)) (.var 3) (.int 0))))
  (.cons
  (.ret (.lst false (.cons (.call 28 (.cons (.bin .add false (.comp false [("own", 6)] (.name 6) (.e (.var 5)) .nil (.neg (.var 6))) (.comp false [("own", 6)] (.name 6) (.e (.var 1)) .nil (.neg (.var 6)))) .nil)) (.cons (.call 28 (.cons (.bin .add false (.var 5) (.prim .list false (.cons (.var 2) .nil))) .nil)) .nil))))
  .nil)))), false⟩
def f_slab : Fn := ⟨"slab", 4, ["axis", "low", "high", "below", "own"], (.cons
  (.set (.name 4) (.call 4 (.cons (.tup (.cons (.var 1) (.cons (.var 2) .nil))) .nil)))
  (.cons
  (.iff (.or_ (.cons (.not_ (.call 2 (.cons (.var 0) (.cons (.int 0) (.cons (.int 2) .nil))))) (.cons (.not_ (.call 51 (.cons (.var 4) (.cons (.int 2) .nil)))) (.cons (.not_ (.call 1 (.cons (.var 3) (.cons (.int 1) .nil)))) .nil)))) (.cons
   (.raise 1)
   .nil) .nil)
  (.cons
  (.ret (.call 68 (.cons (.call 69 (.cons (.var 0) (.cons (.idx (.var 4) (.int 0)) (.cons (.idx (.var 4) (.int 1)) (.cons (.var 3) .nil))))) .nil)))
  .nil))), false⟩
def f_brick : Fn := ⟨"brick", 3, ["low", "high", "below", "found", "axis", "near", "far"], (.cons
  (.set (.tup (.cons (.name 5) (.cons (.name 6) .nil))) (.tup (.cons (.call 4 (.cons (.var 0) .nil)) (.cons (.call 4 (.cons (.var 1) .nil)) .nil))))
  (.cons
  (.iff (.or_ (.cons (.not_ (.call 51 (.cons (.var 5) (.cons (.int 3) .nil)))) (.cons (.not_ (.call 51 (.cons (.var 6) (.cons (.int 3) .nil)))) (.cons (.cmp .ne (.prim .len false (.cons (.idx (.var 5) (.int 0)) .nil)) (.prim .len false (.cons (.idx (.var 6) (.int 0)) .nil))) (.cons (.not_ (.call 1 (.cons (.var 2) (.cons (.int 1) .nil)))) .nil))))) (.cons
   (.raise 1)
   .nil) .nil)
  (.cons
  (.set (.name 3) (.lst true .nil))
  (.cons
  (.for_ (.name 4) (.range (.cons (.int 3) .nil)) (.cons
   (.expr (.meth .extend (.var 3) (.cons (.call 69 (.cons (.var 4) (.cons (.idx (.var 5) (.var 4)) (.cons (.idx (.var 6) (.var 4)) (.cons (.var 2) .nil))))) .nil)))
   .nil))
  (.cons
  (.ret (.call 68 (.cons (.var 3) .nil)))
  .nil))))), false⟩
def f_sure_points : Fn := ⟨"sure_points", 1, ["points", "own", "one"], (.cons
  (.set (.name 1) (.call 4 (.cons (.var 0) .nil)))
  (.cons
  (.iff (.or_ (.cons (.not_ (.isi (.var 1) [.tuple])) (.cons (.not_ (.prim .all false (.cons (.comp false [("one", 2)] (.name 2) (.e (.var 1)) .nil (.call 11 (.cons (.var 2) .nil))) .nil))) (.cons (.not_ (.call 5 (.cons (.var 1) .nil))) .nil)))) (.cons
   (.raise 1)
   .nil) .nil)
  (.cons
  (.ret (.var 1))
  .nil))), false⟩
def f_beyond_plain : Fn := ⟨"beyond_plain", 2, ["wall", "point"], (.cons
  (.ret (.bin .sub false (.call 19 (.cons (.slc false (.var 0) .nil (.cons (.int 3) .nil)) (.cons (.slc false (.var 1) .nil (.cons (.int 3) .nil)) .nil))) (.bin .mul false (.idx (.var 0) (.int 3)) (.idx (.var 1) (.int 3)))))
  .nil), false⟩
def f_is_below : Fn := ⟨"is_below", 2, ["wall", "points", "point"], (.cons
  (.ret (.prim .all false (.cons (.comp false [("point", 2)] (.name 2) (.e (.var 1)) .nil (.cmp .le (.call 73 (.cons (.var 0) (.cons (.var 2) .nil))) (.int 0))) .nil)))
  .nil), false⟩
def f_round_in : Fn := ⟨"round_in", 1, ["points", "found", "kept", "k", "third", "j", "other", "one", "wall", "own"], (.cons
  (.set (.name 1) (.dnew true))
  (.cons
  (.for_ (.tup (.cons (.name 3) (.cons (.name 4) .nil))) (.enum (.var 0)) (.cons
   (.for_ (.tup (.cons (.name 5) (.cons (.name 6) .nil))) (.enum (.slc false (.var 0) .nil (.cons (.var 3) .nil))) (.cons
    (.for_ (.name 7) (.e (.slc false (.var 0) .nil (.cons (.var 5) .nil))) (.cons
     (.iff (.cmp .ne (.call 21 (.cons (.var 7) (.cons (.var 6) (.cons (.var 4) .nil)))) (.tup (.cons (.int 0) (.cons (.int 0) (.cons (.int 0) .nil))))) (.cons
      (.set (.name 8) (.call 22 (.cons (.var 7) (.cons (.var 6) (.cons (.var 4) .nil)))))
      (.cons
      (.for_ (.name 9) (.e (.tup (.cons (.var 8) (.cons (.call 29 (.cons (.var 8) .nil)) .nil)))) (.cons
       (.set (.sub (.var 1) (.var 9)) (.or_ (.cons (.dget (.var 1) (.cons (.var 9) (.cons (.bl false) .nil))) (.cons (.call 74 (.cons (.var 9) (.cons (.var 0) .nil))) .nil))))
       .nil))
      .nil)) .nil)
     .nil))
    .nil))
   .nil))
  (.cons
  (.set (.name 2) (.prim .sorted false (.cons (.comp false [("wall", 8)] (.name 8) (.e (.var 1)) (.cons (.idx (.var 1) (.var 8)) .nil) (.var 8)) .nil)))
  (.cons
  (.iff (.or_ (.cons (.cmp .eq (.var 2) (.lst false .nil)) (.cons (.prim .any false (.cons (.comp false [("wall", 8)] (.name 8) (.e (.var 2)) .nil (.cmp .isin (.call 29 (.cons (.var 8) .nil)) (.var 2))) .nil)) .nil))) (.cons
   (.raise 0)
   .nil) .nil)
  (.cons
  (.ret (.var 2))
  .nil))))), false⟩
def f_walls_round : Fn := ⟨"walls_round", 1, ["points"], (.cons
  (.ret (.prim .tuple false (.cons (.call 75 (.cons (.call 72 (.cons (.var 0) .nil)) .nil)) .nil)))
  .nil), false⟩
def f_hull : Fn := ⟨"hull", 2, ["points", "number", "own", "many", "wall"], (.cons
  (.set (.tup (.cons (.name 2) (.cons (.name 3) .nil))) (.tup (.cons (.call 72 (.cons (.var 0) .nil)) (.cons (.call 46 (.cons (.var 1) .nil)) .nil))))
  (.cons
  (.ret (.call 68 (.cons (.comp false [("wall", 4)] (.name 4) (.e (.call 75 (.cons (.var 2) .nil))) .nil (.bin .add false (.var 4) (.bin .mul false (.tup (.cons (.int 0) .nil)) (.var 3)))) .nil)))
  .nil)), false⟩
def f_are_upright : Fn := ⟨"are_upright", 1, ["ways", "way", "edge", "own"], (.cons
  (.for_ (.name 1) (.e (.var 0)) (.cons
   (.set (.name 2) (.call 18 (.cons (.idx (.var 0) (.int 0)) (.cons (.var 1) .nil))))
   (.cons
   (.iff (.cmp .ne (.var 2) (.tup (.cons (.int 0) (.cons (.int 0) (.cons (.int 0) .nil))))) (.cons
    (.ret (.prim .any false (.cons (.comp false [("own", 3)] (.name 3) (.e (.var 0)) .nil (.cmp .ne (.call 19 (.cons (.var 2) (.cons (.var 3) .nil))) (.int 0))) .nil)))
    .nil) .nil)
   .nil)))
  (.cons
  (.ret (.bl false))
  .nil)), false⟩
def f_hull_corners : Fn := ⟨"hull_corners", 1, ["points", "own", "walls", "found", "point", "wall"], (.cons
  (.set (.name 1) (.call 72 (.cons (.var 0) .nil)))
  (.cons
  (.set (.name 2) (.call 75 (.cons (.var 1) .nil)))
  (.cons
  (.set (.name 3) (.lst true .nil))
  (.cons
  (.for_ (.name 4) (.e (.var 1)) (.cons
   (.iff (.call 78 (.cons (.comp false [("wall", 5)] (.name 5) (.e (.var 2)) (.cons (.cmp .eq (.call 73 (.cons (.var 5) (.cons (.var 4) .nil))) (.int 0)) .nil) (.slc false (.var 5) .nil (.cons (.int 3) .nil))) .nil)) (.cons
    (.expr (.meth .append (.var 3) (.cons (.var 4) .nil)))
    .nil) .nil)
   .nil))
  (.cons
  (.ret (.prim .tuple false (.cons (.var 3) .nil)))
  .nil))))), false⟩
def f_law_box : Fn := ⟨"_law_box", 2, ["_law_script", "_law_k", "_law_bit_so"], (.cons
  (.set (.name 2) (.ite (.cmp .lt (.var 1) (.prim .len false (.cons (.var 0) .nil))) (.idx (.var 0) (.var 1)) (.int 0)))
  (.cons
  (.ret (.lst true (.cons (.bin .mul false (.prim .abs false (.cons (.var 2) .nil)) (.prim .int false (.cons (.cmp .ge (.prim .abs false (.cons (.var 2) .nil)) (.bin .pow false (.int 10) (.int 18))) .nil))) (.cons (.bin .add false (.bin .add false (.bin .mod false (.prim .int false (.cons (.var 2) .nil)) (.int 2305843009213693951)) (.bin .mul false (.int 39373) (.var 1))) (.int 3179024)) (.cons (.int 0) .nil)))))
  .nil)), true⟩
def f_law_take : Fn := ⟨"_law_take", 2, ["_law_tin", "_law_below_so", "_law_once_so", "_law_wide_so", "_law_twice_so", "_law_drawn"], (.cons
  (.iff (.cmp .gt (.idx (.var 0) (.int 0)) (.int 0)) (.cons
   (.set (.name 5) (.bin .mod false (.prim .int false (.cons (.idx (.var 0) (.int 0)) .nil)) (.var 1)))
   (.cons
   (.set (.sub (.var 0) (.int 0)) (.bin .fdiv false (.idx (.var 0) (.int 0)) (.var 1)))
   (.cons
   (.ret (.var 5))
   .nil))) .nil)
  (.cons
  (.set (.sub (.var 0) (.int 2)) (.bin .add false (.idx (.var 0) (.int 2)) (.int 1)))
  (.cons
  (.set (.name 2) (.bin .mod false (.prim .int false (.cons (.bin .mul false (.bin .add false (.idx (.var 0) (.int 1)) (.bin .mul false (.int 48271) (.idx (.var 0) (.int 2)))) (.bin .add false (.int 39373) (.idx (.var 0) (.int 2)))) .nil)) (.int 2147483647)))
  (.cons
  (.set (.name 3) (.bin .add false (.bin .mod false (.prim .int false (.cons (.var 2) .nil)) (.int 40009)) (.int 7)))
  (.cons
  (.set (.name 4) (.bin .mod false (.prim .int false (.cons (.bin .mul false (.bin .add false (.bin .add false (.var 2) (.idx (.var 0) (.int 2))) (.bin .fdiv false (.idx (.var 0) (.int 1)) (.int 1000003))) (.var 3)) .nil)) (.int 2147483629)))
  (.cons
  (.ret (.bin .mod false (.prim .int false (.cons (.bin .fdiv false (.bin .mod false (.prim .int false (.cons (.bin .add false (.bin .mul false (.var 4) (.int 48271)) (.var 2)) .nil)) (.int 2147483587)) (.int 64)) .nil)) (.var 1)))
  .nil)))))), false⟩
def f_law_cells : Fn := ⟨"_law_cells", 2, ["_law_script", "_law_most_so", "_law_cells_so", "_law_k", "_law_bit_so", "_law_at_so"], (.cons
  (.set (.name 2) (.or_ (.cons (.prim .list true (.cons (.slc false (.var 0) .nil (.cons (.var 1) .nil)) .nil)) (.cons (.lst true (.cons (.int 0) .nil)) .nil))))
  (.cons
  (.for_ (.tup (.cons (.name 3) (.cons (.name 4) .nil))) (.enum (.slc false (.var 0) (.cons (.var 1) .nil) (.cons (.int 63) .nil))) (.cons
   (.set (.name 5) (.bin .mod false (.prim .int false (.cons (.var 3) .nil)) (.var 1)))
   (.cons
   (.set (.sub (.var 2) (.var 5)) (.bin .add false (.idx (.var 2) (.var 5)) (.bin .mul false (.var 4) (.bin .add false (.var 3) (.int 2)))))
   .nil)))
  (.cons
  (.ret (.var 2))
  .nil))), false⟩
def f_law_lists : Fn := ⟨"_law_lists", 1, ["_law_matter", "_law_bit"], (.cons
  (.ret (.ite (.isi (.var 0) [.list, .tuple]) (.comp false [("_law_bit", 1)] (.name 1) (.e (.var 0)) .nil (.call 83 (.cons (.var 1) .nil))) (.var 0)))
  .nil), false⟩
def f_law_same : Fn := ⟨"_law_same", 2, ["_law_got", "_law_due", "_law_mine", "_law_its"], (.cons
  (.iff (.isi (.var 1) [.list, .tuple]) (.cons
   (.iff (.or_ (.cons (.cmp .ne (.isi (.var 0) [.list]) (.isi (.var 1) [.list])) (.cons (.cmp .ne (.isi (.var 0) [.tuple]) (.isi (.var 1) [.tuple])) .nil))) (.cons
    (.ret (.bl false))
    .nil) .nil)
   (.cons
   (.ret (.and_ (.cons (.cmp .eq (.prim .len false (.cons (.var 0) .nil)) (.prim .len false (.cons (.var 1) .nil))) (.cons (.prim .all false (.cons (.comp false [("_law_mine", 2), ("_law_its", 3)] (.tup (.cons (.name 2) (.cons (.name 3) .nil))) (.zip (.var 0) (.var 1)) .nil (.call 84 (.cons (.var 2) (.cons (.var 3) .nil)))) .nil)) .nil))))
   .nil)) .nil)
  (.cons
  (.iff (.or_ (.cons (.isn false (.var 1)) (.cons (.isi (.var 1) [.bool, .str]) .nil))) (.cons
   (.ret (.and_ (.cons (.cmp .eq (.var 0) (.var 1)) (.cons (.cmp .eq (.isi (.var 0) [.bool]) (.isi (.var 1) [.bool])) (.cons (.cmp .eq (.isn false (.var 0)) (.isn false (.var 1))) .nil)))))
   .nil) .nil)
  (.cons
  (.ret (.and_ (.cons (.isi (.var 0) [.int]) (.cons (.not_ (.isi (.var 0) [.bool])) (.cons (.cmp .eq (.var 0) (.var 1)) .nil)))))
  .nil))), false⟩
def f_law_meet : Fn := ⟨"_law_meet", 1, ["_law_slabs_so", "_law_found", "_law_own"], (.cons
  (.set (.name 1) (.tup (.cons (.str [119, 97, 108, 108]) (.cons (.idx (.var 0) (.int 0)) .nil))))
  (.cons
  (.for_ (.name 2) (.e (.slc false (.var 0) (.cons (.int 1) .nil) .nil)) (.cons
   (.set (.name 1) (.tup (.cons (.str [98, 111, 116, 104]) (.cons (.var 1) (.cons (.tup (.cons (.str [119, 97, 108, 108]) (.cons (.var 2) .nil))) .nil)))))
   .nil))
  (.cons
  (.ret (.var 1))
  .nil))), false⟩
def f_law_still : Fn := ⟨"_law_still", 1, ["_law_many_so", "_law_found", "_law_k", "_law_j"], (.cons
  (.set (.name 1) (.lst true .nil))
  (.cons
  (.for_ (.name 2) (.range (.cons (.int 3) .nil)) (.cons
   (.expr (.meth .append (.var 1) (.cons (.prim .tuple false (.cons (.comp false [("_law_j", 3)] (.name 3) (.range (.cons (.bin .add false (.var 0) (.int 4)) .nil)) .nil (.prim .int false (.cons (.cmp .eq (.var 3) (.var 2)) .nil))) .nil)) .nil)))
   .nil))
  (.cons
  (.ret (.tup (.cons (.prim .tuple false (.cons (.var 1) .nil)) (.cons (.int 1) .nil))))
  .nil))), false⟩
def f_law_told : Fn := ⟨"_law_told", 2, ["_law_door", "_law_its", "_law_row"], (.cons
  (.iff (.cmp .lt (.var 0) (.int 4)) (.cons
   (.ret (.callv (.idx (.lst false (.cons (.fnv 58) (.cons (.fnv 59) (.cons (.fnv 49) (.cons (.fnv 76) .nil))))) (.var 0)) (.cons (.idx (.var 1) (.int 0)) .nil)))
   .nil) .nil)
  (.cons
  (.iff (.cmp .lt (.var 0) (.int 14)) (.cons
   (.set (.name 2) (.lst false (.cons (.fnv 57) (.cons (.fnv 61) (.cons (.fnv 62) (.cons (.fnv 64) (.cons (.fnv 66) (.cons (.fnv 67) (.cons (.fnv 52) (.cons (.fnv 53) (.cons (.fnv 55) (.cons (.fnv 77) .nil))))))))))))
   (.cons
   (.ret (.callv (.idx (.var 2) (.bin .sub false (.var 0) (.int 4))) (.cons (.idx (.var 1) (.int 0)) (.cons (.idx (.var 1) (.int 1)) .nil))))
   .nil)) .nil)
  (.cons
  (.iff (.cmp .eq (.var 0) (.int 14)) (.cons
   (.ret (.callk 71 .nil [2, 1, 0] (.cons (.idx (.var 1) (.int 2)) (.cons (.idx (.var 1) (.int 1)) (.cons (.idx (.var 1) (.int 0)) .nil)))))
   .nil) .nil)
  (.cons
  (.iff (.cmp .lt (.var 0) (.int 17)) (.cons
   (.ret (.callv (.idx (.lst false (.cons (.fnv 54) (.cons (.fnv 70) .nil))) (.bin .sub false (.var 0) (.int 15))) (.cons (.idx (.var 1) (.int 0)) (.cons (.idx (.var 1) (.int 1)) (.cons (.idx (.var 1) (.int 2)) (.cons (.idx (.var 1) (.int 3)) .nil))))))
   .nil) .nil)
  (.cons
  (.ret (.call 79 (.cons (.idx (.var 1) (.int 0)) .nil)))
  .nil))))), false⟩
def f_law_heard : Fn := ⟨"_law_heard", 2, ["_law_door", "_law_its", "_law_found", "error_a", "error_b"], (.cons
  (.set (.name 2) .non)
  (.cons
  (.try_ (.cons
   (.set (.name 2) (.call 87 (.cons (.var 0) (.cons (.var 1) .nil))))
   .nil) (.cons 1 (some 3) (.cons
   (.set (.name 2) (.lst false (.cons (.str [117, 110, 102, 105, 116]) (.cons (.isx (.var 3) true) .nil))))
   .nil) (.cons 0 (some 4) (.cons
   (.set (.name 2) (.lst false (.cons (.str [102, 108, 97, 116]) (.cons (.isx (.var 4) true) .nil))))
   .nil) .nil)))
  (.cons
  (.ret (.var 2))
  .nil))), false⟩
def f_law_odd : Fn := ⟨"_law_odd", 0, ["_law_rows", "_law_found", "_law_line", "_law_one"], (.cons
  (.set (.tup (.cons (.name 2) (.cons (.name 3) .nil))) (.tup (.cons (.tup (.cons (.int 1) (.cons (.int 0) (.cons (.int 0) (.cons (.int 0) .nil))))) (.cons (.tup (.cons (.int 0) (.cons (.int 1) (.cons (.int 0) (.cons (.int 0) .nil))))) .nil))))
  (.cons
  (.set (.name 0) (.tup (.cons (.var 2) (.cons (.var 3) (.cons (.tup (.cons (.int 0) (.cons (.int 0) (.cons (.int 1) (.cons (.int 0) .nil))))) .nil)))))
  (.cons
  (.set (.name 1) (.lst false (.cons .non (.cons (.tup .nil) (.cons (.int 3) (.cons (.var 0) (.cons (.tup (.cons (.var 0) .nil)) (.cons (.tup (.cons (.var 0) (.cons (.int 0) .nil))) (.cons (.tup (.cons (.var 0) (.cons (.neg (.int 1)) .nil))) (.cons (.tup (.cons (.var 0) (.cons (.bl true) .nil))) (.cons (.tup (.cons (.var 0) (.cons (.int 1) (.cons (.int 1) .nil)))) (.cons (.tup (.cons (.slc false (.var 0) .nil (.cons (.int 2) .nil)) (.cons (.int 1) .nil))) (.cons (.tup (.cons (.tup (.cons (.var 2) (.cons (.var 3) (.cons (.var 3) .nil)))) (.cons (.int 1) .nil))) .nil)))))))))))))
  (.cons
  (.set (.name 1) (.bin .add false (.var 1) (.lst false (.cons (.tup (.cons (.tup (.cons (.tup (.cons (.int 2) (.cons (.int 0) (.cons (.int 0) (.cons (.int 0) .nil))))) (.cons (.tup (.cons (.int 0) (.cons (.int 2) (.cons (.int 0) (.cons (.int 0) .nil))))) (.cons (.tup (.cons (.int 0) (.cons (.int 0) (.cons (.int 2) (.cons (.int 0) .nil))))) .nil)))) (.cons (.int 2) .nil))) (.cons (.tup (.cons (.tup (.cons (.var 2) (.cons (.var 3) (.cons (.tup (.cons (.int 0) (.cons (.int 0) (.cons (.int 1) .nil)))) .nil)))) (.cons (.int 1) .nil))) (.cons (.tup (.cons (.tup (.cons (.var 2) (.cons (.var 3) (.cons (.tup (.cons (.int 0) (.cons (.int 0) (.cons (.int 1) (.cons (.int 0) (.cons (.int 0) .nil)))))) .nil)))) (.cons (.int 1) .nil))) .nil))))))
  (.cons
  (.set (.name 1) (.bin .add false (.var 1) (.lst false (.cons (.tup (.cons (.tup (.cons (.tup (.cons (.int 1) (.cons (.int 0) (.cons (.int 0) .nil)))) (.cons (.tup (.cons (.int 0) (.cons (.int 1) (.cons (.int 0) .nil)))) (.cons (.tup (.cons (.int 0) (.cons (.int 0) (.cons (.int 1) .nil)))) .nil)))) (.cons (.int 1) .nil))) (.cons (.tup (.cons (.tup (.cons (.var 2) (.cons (.var 3) (.cons .non .nil)))) (.cons (.int 1) .nil))) (.cons (.tup (.cons (.tup (.cons (.var 2) (.cons (.var 3) (.cons (.tup (.cons (.int 0) (.cons (.int 0) (.cons (.bl true) (.cons (.int 0) .nil))))) .nil)))) (.cons (.int 1) .nil))) (.cons (.tup (.cons (.str [97, 98, 99]) (.cons (.int 1) .nil))) .nil)))))))
  (.cons
  (.ret (.bin .add false (.var 1) (.lst false (.cons (.tup (.cons (.tup (.cons (.var 2) (.cons (.var 3) (.cons (.tup (.cons (.int 0) (.cons (.int 0) (.cons (.str [49]) (.cons (.int 0) .nil))))) .nil)))) (.cons (.int 1) .nil))) (.cons (.tup (.cons .non (.cons (.int 1) .nil))) (.cons (.tup (.cons (.tup (.cons (.int 7) (.cons (.var 2) (.cons (.var 3) .nil)))) (.cons (.int 1) .nil))) (.cons (.tup (.cons (.tup (.cons (.var 2) (.cons (.var 3) (.cons (.tup (.cons (.int 0) (.cons (.int 0) (.cons (.tup (.cons (.int 1) .nil)) (.cons (.int 0) .nil))))) .nil)))) (.cons (.int 1) .nil))) .nil)))))))
  .nil)))))), false⟩
def f_law_moves_right : Fn := ⟨"_law_moves_right", 1, ["_law_part", "_law_got", "_law_spot_so", "_law_seconds", "_law_door", "_law_still_here", "_law_odd_here", "_law_more", "_law_one", "_law_own"], (.cons
  (.set (.tup (.cons (.name 5) (.cons (.name 6) .nil))) (.tup (.cons (.call 86 (.cons (.int 0) .nil)) (.cons (.call 89 .nil) .nil))))
  (.cons
  (.set (.name 1) (.bin .add true (.comp false [("_law_own", 9)] (.name 9) (.e (.var 6)) .nil (.call 42 (.cons (.var 9) .nil))) (.lst false (.cons (.call 42 (.cons (.call 83 (.cons (.var 5) .nil)) .nil)) .nil))))
  (.cons
  (.iff (.not_ (.call 84 (.cons (.var 1) (.cons (.bin .mul false (.lst false (.cons (.bl false) .nil)) (.prim .len false (.cons (.var 1) .nil))) .nil)))) (.cons
   (.ret (.bl false))
   .nil) .nil)
  (.cons
  (.set (.name 2) (.tup (.cons (.int 0) (.cons (.int 0) (.cons (.int 0) (.cons (.int 1) .nil))))))
  (.cons
  (.set (.name 3) (.ddisp (.cons (.int 4) (.cons (.var 5) (.cons (.int 5) (.cons (.tup .nil) (.cons (.int 6) (.cons (.tup (.cons (.tup .nil) (.cons (.var 2) .nil))) (.cons (.int 7) (.cons (.tup (.cons (.int 1) (.cons (.int 0) (.cons (.int 0) (.cons (.int 0) .nil))))) (.cons (.int 8) (.cons (.tup (.cons (.str [97, 108, 108]) .nil)) (.cons (.int 9) (.cons (.tup (.cons (.var 2) (.cons (.tup (.cons (.int 1) (.cons (.int 0) (.cons (.int 0) .nil)))) .nil))) .nil))))))))))))))
  (.cons
  (.set (.name 1) (.lst true .nil))
  (.cons
  (.for_ (.name 4) (.e (.idx (.tup (.cons (.tup (.cons (.int 0) (.cons (.int 1) (.cons (.int 4) .nil)))) (.cons (.tup (.cons (.int 5) (.cons (.int 6) (.cons (.int 7) .nil)))) (.cons (.tup (.cons (.int 8) (.cons (.int 9) (.cons (.int 4) .nil)))) .nil)))) (.var 0))) (.cons
   (.set (.name 1) (.bin .add true (.var 1) (.comp false [("_law_own", 9)] (.name 9) (.e (.var 6)) .nil (.call 88 (.cons (.var 4) (.cons (.tup (.cons (.var 9) (.cons (.dget (.var 3) (.cons (.var 4) .nil)) .nil))) .nil))))))
   .nil))
  (.cons
  (.set (.tup (.cons (.name 7) (.cons (.name 8) .nil))) (.tup (.cons (.call 86 (.cons (.int 1) .nil)) (.cons (.tup (.cons (.tup (.cons (.tup (.cons (.int 1) (.cons (.int 2) .nil))) .nil)) (.cons (.var 2) .nil))) .nil))))
  (.cons
  (.for_ (.tup (.cons (.name 4) (.cons (.name 9) .nil))) (.e (.tup (.cons (.tup (.cons (.int 4) (.cons (.var 7) .nil))) (.cons (.tup (.cons (.int 4) (.cons .non .nil))) (.cons (.tup (.cons (.int 5) (.cons (.tup (.cons (.tup (.cons (.int 1) (.cons (.int 2) .nil))) .nil)) .nil))) (.cons (.tup (.cons (.int 5) (.cons .non .nil))) (.cons (.tup (.cons (.int 5) (.cons (.int 3) .nil))) (.cons (.tup (.cons (.int 6) (.cons (.var 8) .nil))) (.cons (.tup (.cons (.int 6) (.cons (.tup (.cons (.tup .nil) (.cons (.tup (.cons (.int 0) (.cons (.int 0) (.cons (.int 0) (.cons (.int 0) .nil))))) .nil))) .nil))) (.cons (.tup (.cons (.int 6) (.cons (.tup (.cons (.var 2) .nil)) .nil))) (.cons (.tup (.cons (.int 6) (.cons (.int 7) .nil))) .nil))))))))))) (.cons
   (.expr (.meth .append (.var 1) (.cons (.call 88 (.cons (.var 4) (.cons (.tup (.cons (.var 5) (.cons (.var 9) .nil))) .nil))) .nil)))
   .nil))
  (.cons
  (.for_ (.tup (.cons (.name 4) (.cons (.name 9) .nil))) (.e (.tup (.cons (.tup (.cons (.int 7) (.cons (.tup (.cons (.int 1) (.cons (.int 0) (.cons (.int 0) (.cons (.int 0) (.cons (.int 0) .nil)))))) .nil))) (.cons (.tup (.cons (.int 7) (.cons (.tup (.cons (.int 2) (.cons (.int 0) (.cons (.int 0) (.cons (.int 0) .nil))))) .nil))) (.cons (.tup (.cons (.int 7) (.cons (.tup (.cons (.int 0) (.cons (.int 0) (.cons (.int 0) (.cons (.int 1) .nil))))) .nil))) (.cons (.tup (.cons (.int 7) (.cons .non .nil))) (.cons (.tup (.cons (.int 8) (.cons (.tup (.cons (.str [119, 97, 108, 108]) (.cons (.tup (.cons (.int 1) (.cons (.int 0) (.cons (.int 0) (.cons (.int 0) (.cons (.int 0) .nil)))))) .nil))) .nil))) (.cons (.tup (.cons (.int 8) (.cons (.tup (.cons (.str [119, 97, 108, 108]) .nil)) .nil))) (.cons (.tup (.cons (.int 8) (.cons (.tup .nil) .nil))) .nil))))))))) (.cons
   (.expr (.meth .append (.var 1) (.cons (.call 88 (.cons (.var 4) (.cons (.tup (.cons (.var 5) (.cons (.var 9) .nil))) .nil))) .nil)))
   .nil))
  (.cons
  (.for_ (.tup (.cons (.name 4) (.cons (.name 9) .nil))) (.e (.tup (.cons (.tup (.cons (.int 9) (.cons (.tup (.cons (.var 2) (.cons (.tup (.cons (.int 0) (.cons (.int 0) (.cons (.int 0) .nil)))) .nil))) .nil))) (.cons (.tup (.cons (.int 9) (.cons (.var 2) .nil))) (.cons (.tup (.cons (.int 9) (.cons (.tup (.cons (.var 2) (.cons (.tup (.cons (.int 1) (.cons (.int 0) .nil))) .nil))) .nil))) (.cons (.tup (.cons (.int 9) (.cons .non .nil))) .nil)))))) (.cons
   (.expr (.meth .append (.var 1) (.cons (.call 88 (.cons (.var 4) (.cons (.tup (.cons (.var 5) (.cons (.var 9) .nil))) .nil))) .nil)))
   .nil))
  (.cons
  (.set (.name 1) (.bin .add true (.var 1) (.lst false (.cons (.call 88 (.cons (.int 9) (.cons (.tup (.cons (.var 7) (.cons (.tup (.cons (.var 2) (.cons (.tup (.cons (.int 1) (.cons (.int 0) (.cons (.int 0) .nil)))) .nil))) .nil))) .nil))) (.cons (.call 88 (.cons (.int 5) (.cons (.tup (.cons (.var 7) (.cons (.tup (.cons (.tup (.cons (.int 2) (.cons (.int 4) .nil))) .nil)) .nil))) .nil))) (.cons (.call 88 (.cons (.int 5) (.cons (.tup (.cons (.var 7) (.cons (.tup .nil) .nil))) .nil))) .nil))))))
  (.cons
  (.ret (.call 84 (.cons (.var 1) (.cons (.bin .mul false (.lst false (.cons (.lst false (.cons (.str [117, 110, 102, 105, 116]) (.cons (.bl true) .nil))) .nil)) (.prim .len false (.cons (.var 1) .nil))) .nil))))
  .nil))))))))))))), false⟩
def f_law_makers_right : Fn := ⟨"_law_makers_right", 0, ["_law_got", "_law_bads", "_law_door", "_law_flats", "_law_zero", "_law_ones", "_law_own"], (.cons
  (.set (.tup (.cons (.name 4) (.cons (.name 5) .nil))) (.tup (.cons (.tup (.cons (.tup (.cons (.int 0) .nil)) (.cons (.tup (.cons (.int 0) .nil)) (.cons (.tup (.cons (.int 0) .nil)) .nil)))) (.cons (.tup (.cons (.tup (.cons (.int 1) .nil)) (.cons (.tup (.cons (.int 1) .nil)) (.cons (.tup (.cons (.int 1) .nil)) .nil)))) .nil))))
  (.cons
  (.set (.name 0) (.comp true [("_law_own", 6)] (.name 6) (.e (.tup (.cons (.neg (.int 1)) (.cons (.bl true) (.cons .non (.cons (.str [49]) (.cons (.tup (.cons (.int 0) .nil)) .nil))))))) .nil (.call 88 (.cons (.int 2) (.cons (.tup (.cons (.var 6) .nil)) .nil)))))
  (.cons
  (.set (.name 0) (.bin .add true (.var 0) (.comp false [("_law_own", 6)] (.name 6) (.e (.tup (.cons (.slc false (.var 4) .nil (.cons (.int 2) .nil)) (.cons (.bin .add false (.var 4) (.slc false (.var 4) .nil (.cons (.int 1) .nil))) (.cons (.tup (.cons (.tup (.cons (.int 0) .nil)) (.cons (.tup (.cons (.int 0) .nil)) (.cons (.tup (.cons (.int 0) (.cons (.int 0) .nil))) .nil)))) (.cons (.tup (.cons (.tup (.cons (.int 0) .nil)) (.cons (.tup (.cons (.int 0) .nil)) (.cons (.tup .nil) .nil)))) (.cons (.tup (.cons (.tup (.cons (.int 0) .nil)) (.cons (.tup (.cons (.int 0) .nil)) (.cons (.tup (.cons .non .nil)) .nil)))) (.cons .non (.cons (.int 3) .nil))))))))) .nil (.call 88 (.cons (.int 10) (.cons (.tup (.cons (.var 6) (.cons (.int 1) .nil))) .nil))))))
  (.cons
  (.set (.name 0) (.bin .add true (.var 0) (.comp false [("_law_own", 6)] (.name 6) (.e (.tup (.cons (.int 0) (.cons (.neg (.int 2)) (.cons (.bl true) (.cons .non .nil)))))) .nil (.call 88 (.cons (.int 10) (.cons (.tup (.cons (.var 4) (.cons (.var 6) .nil))) .nil))))))
  (.cons
  (.set (.name 0) (.bin .add true (.var 0) (.comp false [("_law_own", 6)] (.name 6) (.e (.tup (.cons (.tup (.cons (.tup (.cons (.int 0) (.cons (.int 1) .nil))) (.cons (.int 0) .nil))) (.cons (.tup (.cons (.tup (.cons (.int 2) (.cons (.int 4) .nil))) (.cons (.int 0) .nil))) (.cons (.tup (.cons (.int 3) (.cons (.int 0) .nil))) (.cons (.tup (.cons (.tup (.cons (.int 1) (.cons (.int 1) .nil))) (.cons (.neg (.int 1)) .nil))) (.cons (.tup (.cons (.tup (.cons (.int 1) (.cons (.int 1) .nil))) (.cons .non .nil))) (.cons (.tup (.cons .non (.cons (.int 0) .nil))) .nil)))))))) .nil (.call 88 (.cons (.int 11) (.cons (.var 6) .nil))))))
  (.cons
  (.set (.name 0) (.bin .add true (.var 0) (.comp false [("_law_own", 6)] (.name 6) (.e (.tup (.cons (.tup (.cons (.int 3) (.cons (.int 0) .nil))) (.cons (.tup (.cons (.neg (.int 1)) (.cons (.int 0) .nil))) (.cons (.tup (.cons (.bl true) (.cons (.int 0) .nil))) (.cons (.tup (.cons (.int 0) (.cons (.neg (.int 1)) .nil))) (.cons (.tup (.cons .non (.cons (.int 0) .nil))) .nil))))))) .nil (.call 88 (.cons (.int 12) (.cons (.var 6) .nil))))))
  (.cons
  (.set (.name 0) (.bin .add true (.var 0) (.comp false [("_law_own", 6)] (.name 6) (.e (.tup (.cons (.tup (.cons (.int 3) (.cons (.int 1) (.cons (.int 0) (.cons (.int 0) .nil))))) (.cons (.tup (.cons (.neg (.int 1)) (.cons (.int 1) (.cons (.int 0) (.cons (.int 0) .nil))))) (.cons (.tup (.cons (.int 0) (.cons (.int 0) (.cons (.int 0) (.cons (.int 0) .nil))))) (.cons (.tup (.cons (.int 0) (.cons (.bl true) (.cons (.int 1) (.cons (.int 0) .nil))))) (.cons (.tup (.cons (.int 0) (.cons (.int 1) (.cons .non (.cons (.int 0) .nil))))) (.cons (.tup (.cons (.int 0) (.cons (.int 1) (.cons (.int 0) (.cons (.neg (.int 1)) .nil))))) .nil)))))))) .nil (.call 88 (.cons (.int 15) (.cons (.var 6) .nil))))))
  (.cons
  (.set (.name 0) (.bin .add true (.var 0) (.comp false [("_law_own", 6)] (.name 6) (.e (.tup (.cons (.tup (.cons (.var 4) (.cons (.var 5) (.cons (.int 0) .nil)))) (.cons (.tup (.cons (.var 4) (.cons (.slc false (.var 5) .nil (.cons (.int 2) .nil)) (.cons (.int 1) .nil)))) (.cons (.tup (.cons (.var 4) (.cons (.bin .mul false (.tup (.cons (.tup (.cons (.int 1) (.cons (.int 0) .nil))) .nil)) (.int 3)) (.cons (.int 1) .nil)))) (.cons (.tup (.cons .non (.cons (.var 5) (.cons (.int 1) .nil)))) (.cons (.tup (.cons (.var 4) (.cons (.int 3) (.cons (.int 1) .nil)))) .nil))))))) .nil (.call 88 (.cons (.int 14) (.cons (.var 6) .nil))))))
  (.cons
  (.set (.name 0) (.bin .add true (.var 0) (.comp false [("_law_own", 6)] (.name 6) (.e (.tup (.cons (.tup (.cons (.int 3) (.cons (.tup (.cons (.int 0) .nil)) (.cons (.tup (.cons (.int 1) .nil)) (.cons (.int 1) .nil))))) (.cons (.tup (.cons (.int 0) (.cons (.tup (.cons (.int 0) .nil)) (.cons (.tup (.cons (.int 1) (.cons (.int 0) .nil))) (.cons (.int 1) .nil))))) (.cons (.tup (.cons (.int 0) (.cons (.tup .nil) (.cons (.tup (.cons (.int 1) .nil)) (.cons (.int 1) .nil))))) (.cons (.tup (.cons (.int 0) (.cons (.tup (.cons (.int 0) .nil)) (.cons (.tup (.cons (.int 1) .nil)) (.cons (.int 0) .nil))))) (.cons (.tup (.cons (.int 0) (.cons (.int 0) (.cons (.int 1) (.cons (.int 1) .nil))))) .nil))))))) .nil (.call 88 (.cons (.int 16) (.cons (.var 6) .nil))))))
  (.cons
  (.set (.name 1) (.tup (.cons .non (.cons (.int 3) (.cons (.tup (.cons (.tup (.cons (.int 0) (.cons (.int 0) (.cons (.int 0) (.cons (.int 2) .nil))))) .nil)) (.cons (.tup (.cons (.tup (.cons (.int 1) (.cons (.int 0) (.cons (.int 0) (.cons (.int 1) .nil))))) (.cons (.tup (.cons (.int 0) (.cons (.int 0) (.cons (.int 0) (.cons (.int 1) .nil))))) .nil))) (.cons (.tup (.cons (.tup (.cons (.int 0) (.cons (.int 0) (.cons (.int 0) (.cons (.int 1) .nil))))) (.cons (.tup (.cons (.int 0) (.cons (.int 0) (.cons (.int 0) (.cons (.int 1) .nil))))) .nil))) (.cons (.tup (.cons .non .nil)) (.cons (.tup (.cons (.tup (.cons (.int 0) (.cons (.int 0) (.cons (.int 0) .nil)))) .nil)) .nil)))))))))
  (.cons
  (.for_ (.name 2) (.e (.tup (.cons (.int 3) (.cons (.int 13) (.cons (.int 17) .nil))))) (.cons
   (.set (.name 0) (.bin .add true (.var 0) (.comp false [("_law_own", 6)] (.name 6) (.e (.var 1)) .nil (.call 88 (.cons (.var 2) (.cons (.tup (.cons (.var 6) (.cons (.int 0) .nil))) .nil))))))
   .nil))
  (.cons
  (.expr (.meth .append (.var 0) (.cons (.call 88 (.cons (.int 13) (.cons (.tup (.cons (.tup (.cons (.tup (.cons (.int 0) (.cons (.int 0) (.cons (.int 0) (.cons (.int 1) .nil))))) (.cons (.tup (.cons (.int 0) (.cons (.int 0) (.cons (.int 1) (.cons (.int 1) .nil))))) (.cons (.tup (.cons (.int 0) (.cons (.int 1) (.cons (.int 0) (.cons (.int 1) .nil))))) (.cons (.tup (.cons (.int 1) (.cons (.int 0) (.cons (.int 0) (.cons (.int 1) .nil))))) .nil))))) (.cons (.neg (.int 1)) .nil))) .nil))) .nil)))
  (.cons
  (.iff (.not_ (.call 84 (.cons (.var 0) (.cons (.bin .mul false (.lst false (.cons (.lst false (.cons (.str [117, 110, 102, 105, 116]) (.cons (.bl true) .nil))) .nil)) (.prim .len false (.cons (.var 0) .nil))) .nil)))) (.cons
   (.ret (.bl false))
   .nil) .nil)
  (.cons
  (.set (.name 3) (.lst false (.cons (.tup .nil) (.cons (.tup (.cons (.tup (.cons (.int 0) (.cons (.int 0) (.cons (.int 0) (.cons (.int 1) .nil))))) .nil)) (.cons (.tup (.cons (.tup (.cons (.int 0) (.cons (.int 0) (.cons (.int 0) (.cons (.int 1) .nil))))) (.cons (.tup (.cons (.int 1) (.cons (.int 1) (.cons (.int 1) (.cons (.int 1) .nil))))) (.cons (.tup (.cons (.int 1) (.cons (.int 1) (.cons (.int 1) (.cons (.int 2) .nil))))) (.cons (.tup (.cons (.int 2) (.cons (.int 2) (.cons (.int 2) (.cons (.int 1) .nil))))) .nil))))) (.cons (.tup (.cons (.tup (.cons (.int 0) (.cons (.int 0) (.cons (.int 0) (.cons (.int 1) .nil))))) (.cons (.tup (.cons (.int 0) (.cons (.int 0) (.cons (.int 1) (.cons (.int 1) .nil))))) (.cons (.tup (.cons (.int 0) (.cons (.int 1) (.cons (.int 0) (.cons (.int 1) .nil))))) (.cons (.tup (.cons (.int 0) (.cons (.int 1) (.cons (.int 1) (.cons (.int 1) .nil))))) .nil))))) .nil))))))
  (.cons
  (.set (.name 0) (.bin .add true (.bin .add false (.comp false [("_law_own", 6)] (.name 6) (.e (.var 3)) .nil (.call 88 (.cons (.int 3) (.cons (.tup (.cons (.var 6) (.cons (.int 0) .nil))) .nil)))) (.comp false [("_law_own", 6)] (.name 6) (.e (.var 3)) .nil (.call 88 (.cons (.int 13) (.cons (.tup (.cons (.var 6) (.cons (.int 0) .nil))) .nil))))) (.comp false [("_law_own", 6)] (.name 6) (.e (.var 3)) .nil (.call 88 (.cons (.int 17) (.cons (.tup (.cons (.var 6) (.cons (.int 0) .nil))) .nil))))))
  (.cons
  (.set (.name 0) (.bin .add true (.var 0) (.lst false (.cons (.call 88 (.cons (.int 14) (.cons (.tup (.cons (.var 4) (.cons (.tup (.cons (.tup (.cons (.int 1) .nil)) (.cons (.tup (.cons (.int 0) .nil)) (.cons (.tup (.cons (.int 1) .nil)) .nil)))) (.cons (.int 1) .nil)))) .nil))) (.cons (.call 88 (.cons (.int 16) (.cons (.tup (.cons (.int 0) (.cons (.tup (.cons (.int 3) .nil)) (.cons (.tup (.cons (.int 2) .nil)) (.cons (.int 7) .nil))))) .nil))) (.cons (.call 88 (.cons (.int 14) (.cons (.tup (.cons (.var 5) (.cons (.var 4) (.cons (.int 1) .nil)))) .nil))) .nil))))))
  (.cons
  (.ret (.call 84 (.cons (.var 0) (.cons (.bin .mul false (.lst false (.cons (.lst false (.cons (.str [102, 108, 97, 116]) (.cons (.bl true) .nil))) .nil)) (.prim .len false (.cons (.var 0) .nil))) .nil))))
  .nil))))))))))))))))), false⟩
def f_law_values_right : Fn := ⟨"_law_values_right", 0, ["_law_got", "_law_due", "_law_spots_so", "_law_still_here", "_law_empty"], (.cons
  (.set (.tup (.cons (.name 3) (.cons (.name 4) .nil))) (.tup (.cons (.call 86 (.cons (.int 2) .nil)) (.cons (.tup (.cons (.str [110, 111, 116]) (.cons (.tup (.cons (.str [108, 101, 115, 115]) (.cons (.tup (.cons (.str [97, 108, 108]) .nil)) (.cons (.tup (.cons (.str [110, 111, 110, 101]) .nil)) .nil)))) .nil))) .nil))))
  (.cons
  (.set (.name 0) (.lst false (.cons (.call 49 (.cons (.int 2) .nil)) (.cons (.call 66 (.cons (.var 3) (.cons (.var 4) .nil))) (.cons (.call 66 (.cons (.call 86 (.cons (.int 0) .nil)) (.cons (.var 4) .nil))) (.cons (.call 58 (.cons (.var 3) .nil)) (.cons (.call 59 (.cons (.var 3) .nil)) (.cons (.callk 57 .nil [1, 0] (.cons (.var 3) (.cons (.var 3) .nil))) .nil))))))))
  (.cons
  (.set (.name 1) (.lst false (.cons (.var 3) (.cons (.var 4) (.cons (.var 4) (.cons (.var 3) (.cons (.tup (.cons (.int 1) (.cons (.int 1) .nil))) (.cons (.var 3) .nil))))))))
  (.cons
  (.set (.name 0) (.bin .add false (.var 0) (.lst false (.cons (.call 55 (.cons (.int 0) (.cons (.int 0) .nil))) (.cons (.call 55 (.cons (.int 1) (.cons (.int 0) .nil))) (.cons (.call 54 (.cons (.int 0) (.cons (.int 2) (.cons (.int 1) (.cons (.int 1) .nil))))) (.cons (.call 53 (.cons (.tup (.cons (.neg (.int 1)) (.cons (.int 1) .nil))) (.cons (.int 0) .nil))) (.cons (.call 54 (.cons (.int 1) (.cons (.neg (.int 3)) (.cons (.int 0) (.cons (.int 0) .nil))))) .nil))))))))
  (.cons
  (.set (.name 1) (.bin .add false (.var 1) (.lst false (.cons (.tup (.cons (.tup (.cons (.tup (.cons (.neg (.int 1)) (.cons (.int 0) (.cons (.int 0) (.cons (.int 0) .nil))))) (.cons (.tup (.cons (.int 0) (.cons (.int 1) (.cons (.int 0) (.cons (.int 0) .nil))))) (.cons (.tup (.cons (.int 0) (.cons (.int 0) (.cons (.int 1) (.cons (.int 0) .nil))))) .nil)))) (.cons (.int 1) .nil))) (.cons (.tup (.cons (.tup (.cons (.tup (.cons (.int 1) (.cons (.int 0) (.cons (.int 0) (.cons (.int 0) .nil))))) (.cons (.tup (.cons (.int 0) (.cons (.neg (.int 1)) (.cons (.int 0) (.cons (.int 0) .nil))))) (.cons (.tup (.cons (.int 0) (.cons (.int 0) (.cons (.int 1) (.cons (.int 0) .nil))))) .nil)))) (.cons (.int 1) .nil))) .nil)))))
  (.cons
  (.set (.name 1) (.bin .add false (.var 1) (.lst false (.cons (.tup (.cons (.tup (.cons (.tup (.cons (.int 5) (.cons (.int 0) (.cons (.int 0) (.cons (.int 0) (.cons (.int 0) .nil)))))) (.cons (.tup (.cons (.int 0) (.cons (.int 3) (.cons (.neg (.int 4)) (.cons (.int 0) (.cons (.int 0) .nil)))))) (.cons (.tup (.cons (.int 0) (.cons (.int 4) (.cons (.int 3) (.cons (.int 0) (.cons (.int 0) .nil)))))) .nil)))) (.cons (.int 5) .nil))) (.cons (.tup (.cons (.tup (.cons (.tup (.cons (.neg (.int 1)) (.cons (.int 0) (.cons (.int 0) (.cons (.int 0) .nil))))) (.cons (.tup (.cons (.int 0) (.cons (.neg (.int 1)) (.cons (.int 0) (.cons (.int 0) .nil))))) (.cons (.tup (.cons (.int 0) (.cons (.int 0) (.cons (.neg (.int 1)) (.cons (.int 0) .nil))))) .nil)))) (.cons (.int 1) .nil))) (.cons (.call 86 (.cons (.int 0) .nil)) .nil))))))
  (.cons
  (.set (.name 0) (.bin .add false (.var 0) (.lst false (.cons (.call 64 (.cons (.call 55 (.cons (.int 0) (.cons (.int 0) .nil))) (.cons (.tup (.cons (.int 1) (.cons (.int 0) (.cons (.int 0) (.cons (.int 0) .nil))))) .nil))) (.cons (.callk 62 .nil [1, 0] (.cons (.lst false (.cons (.lst false .nil) (.cons (.lst false (.cons (.int 1) (.cons (.int 2) (.cons (.int 3) (.cons (.int 6) .nil))))) .nil))) (.cons (.call 54 (.cons (.int 2) (.cons (.int 1) (.cons (.int 1) (.cons (.int 0) .nil))))) .nil))) (.cons (.call 61 (.cons (.call 49 (.cons (.int 1) .nil)) (.cons (.tup (.cons (.tup (.cons (.int 5) (.cons (.int 3) .nil))) .nil)) .nil))) .nil))))))
  (.cons
  (.set (.name 1) (.bin .add false (.var 1) (.lst false (.cons (.tup (.cons (.neg (.int 1)) (.cons (.int 0) (.cons (.int 0) (.cons (.int 0) .nil))))) (.cons (.tup (.cons (.tup .nil) (.cons (.tup (.cons (.neg (.int 2)) (.cons (.int 1) (.cons (.int 3) (.cons (.int 6) .nil))))) .nil))) (.cons (.call 86 (.cons (.int 0) .nil)) .nil))))))
  (.cons
  (.set (.name 2) (.lst false (.cons (.lst false (.cons (.int 0) (.cons (.int 0) (.cons (.int 0) (.cons (.int 1) .nil))))) (.cons (.lst false (.cons (.int 0) (.cons (.int 0) (.cons (.int 1) (.cons (.int 1) .nil))))) (.cons (.lst false (.cons (.int 0) (.cons (.int 1) (.cons (.int 0) (.cons (.int 1) .nil))))) (.cons (.lst false (.cons (.int 1) (.cons (.int 0) (.cons (.int 0) (.cons (.int 1) .nil))))) .nil))))))
  (.cons
  (.set (.name 0) (.bin .add false (.var 0) (.lst false (.cons (.call 88 (.cons (.int 14) (.cons (.tup (.cons (.lst false (.cons (.lst false (.cons (.int 0) .nil)) (.cons (.lst false (.cons (.int 0) .nil)) (.cons (.lst false (.cons (.int 0) .nil)) .nil)))) (.cons (.lst false (.cons (.lst false (.cons (.int 1) .nil)) (.cons (.lst false (.cons (.int 1) .nil)) (.cons (.lst false (.cons (.int 1) .nil)) .nil)))) (.cons (.int 2) .nil)))) .nil))) (.cons (.call 88 (.cons (.int 13) (.cons (.tup (.cons (.var 2) (.cons (.int 0) .nil))) .nil))) .nil)))))
  (.cons
  (.set (.name 1) (.bin .add false (.var 1) (.lst false (.cons (.call 85 (.cons (.lst false (.cons (.tup (.cons (.neg (.int 1)) (.cons (.int 0) (.cons (.int 0) (.cons (.int 0) .nil))))) (.cons (.tup (.cons (.int 0) (.cons (.neg (.int 1)) (.cons (.int 0) (.cons (.int 0) .nil))))) (.cons (.tup (.cons (.int 0) (.cons (.int 0) (.cons (.neg (.int 1)) (.cons (.int 0) .nil))))) (.cons (.tup (.cons (.int 0) (.cons (.int 0) (.cons (.int 2) (.cons (.int 1) .nil))))) (.cons (.tup (.cons (.int 0) (.cons (.int 2) (.cons (.int 0) (.cons (.int 1) .nil))))) (.cons (.tup (.cons (.int 2) (.cons (.int 0) (.cons (.int 0) (.cons (.int 1) .nil))))) .nil))))))) .nil)) .nil))))
  (.cons
  (.ret (.call 84 (.cons (.var 0) (.cons (.bin .add false (.var 1) (.lst false (.cons (.call 85 (.cons (.lst false (.cons (.tup (.cons (.neg (.int 1)) (.cons (.int 0) (.cons (.int 0) (.cons (.int 0) .nil))))) (.cons (.tup (.cons (.int 0) (.cons (.neg (.int 1)) (.cons (.int 0) (.cons (.int 0) .nil))))) (.cons (.tup (.cons (.int 0) (.cons (.int 0) (.cons (.neg (.int 1)) (.cons (.int 0) .nil))))) (.cons (.tup (.cons (.int 1) (.cons (.int 1) (.cons (.int 1) (.cons (.int 1) .nil))))) .nil))))) .nil)) .nil))) .nil))))
  .nil)))))))))))), false⟩
def f_law : Fn := ⟨"law", 1, ["_law_script"], (.cons
  (.iff (.or_ (.cons (.not_ (.call 92 .nil)) (.cons (.not_ (.call 91 .nil)) .nil))) (.cons
   (.ret (.bl false))
   .nil) .nil)
  (.cons
  (.ret (.call 90 (.cons (.call 81 (.cons (.call 80 (.cons (.call 82 (.cons (.var 0) (.cons (.int 1) .nil))) (.cons (.int 0) .nil))) (.cons (.int 3) .nil))) .nil)))
  .nil)), false⟩
def lw : Lw := ⟨[f_is_number, f_is_from, f_is_within, f_is_long, f_tupled, f_ascends, f_is_row, f_divisor, f_is_fraction, f_sure_fraction, f_made, f_is_point, f_is_direction, f_is_ray, f_sure_point, f_sure_ray, f_parted, f_spot, f_cross, f_dot, f_way_between, f_upright, f_plane_through, f_is_wall, f_sure_wall, f_are_values, f_sure_values, f_sure_case, f_least_wall, f_other_side, f_sum_at, f_is_made, f_walls_in, f_is_solid, f_sure_solid, f_letters_in, f_together, f_both_of, f_all_numbers, f_ways_of, f_determinant, f_columns_back, f_is_move, f_letters_in_move, f_sure_move, f_least_move, f_sure_many, f_widened, f_upright_ways, f_stays, f_is_sum, f_are_sums, f_shifted, f_grown, f_turned, f_mirrored, f_mixed, f_put_together, f_back, f_growth, f_rows_at, f_move_at, f_case_moved, f_wall_in, f_wall_moved, f_solid_in, f_solid_moved, f_ray_moved, f_together_of, f_two_walls, f_slab, f_brick, f_sure_points, f_beyond_plain, f_is_below, f_round_in, f_walls_round, f_hull, f_are_upright, f_hull_corners, f_law_box, f_law_take, f_law_cells, f_law_lists, f_law_same, f_law_meet, f_law_still, f_law_told, f_law_heard, f_law_odd, f_law_moves_right, f_law_makers_right, f_law_values_right, f_law], [top 5, top 6, top 7, top 8, top 9, top 10, top 11, top 12, top 14, top 15, top 16, top 18, top 19, top 20, top 21, top 22, top 23, top 24, top 25, top 26, top 27, top 28, top 29, top 31, top 32, top 33, top 34, top 35, top 36, top 37, top 38, top 42, top 43, top 44, top 45, top 46, top 47, top 48, top 50, top 51, top 52, top 53, top 54, top 55, top 56, top 57, top 58, top 59, top 60, top 61, top 62, top 63, top 64, top 65, top 66, top 67, top 68, top 69, top 70, top 71, top 72, top 73, top 74, top 75, top 76, top 77, top 78, top 79, top 81, top 82, top 83, top 84, top 85, top 86, top 87, top 88, top 89, top 90, top 91, top 92, top 94, top 95, top 96, top 97, top 98, top 99, top 100, top 101, top 102, top 103, top 104, top 105, top 106, top 107], ["LONE", "TWO"], [.tup [.str [97, 108, 108], .str [110, 111, 110, 101]], .tup [.str [98, 111, 116, 104], .str [101, 105, 116, 104, 101, 114], .str [108, 101, 115, 115]]], ["Flat", "Unfit"], ((["is_number", "is_from", "is_within", "is_long", "tupled", "ascends", "is_row", "divisor", "is_fraction", "sure_fraction", "made", "is_point", "is_direction", "is_ray", "sure_point", "sure_ray", "parted", "spot", "cross", "dot", "way_between", "upright", "plane_through", "is_wall", "sure_wall", "are_values", "sure_values", "sure_case", "least_wall", "other_side"] : List Str) ++ (["sum_at", "is_made", "walls_in", "is_solid", "sure_solid", "letters_in", "together", "both_of", "all_numbers", "ways_of", "determinant", "columns_back", "is_move", "letters_in_move", "sure_move", "least_move", "sure_many", "widened", "upright_ways", "stays", "is_sum", "are_sums", "shifted", "grown", "turned", "mirrored", "mixed", "put_together", "back", "growth"] : List Str) ++ (["rows_at", "move_at", "case_moved", "wall_in", "wall_moved", "solid_in", "solid_moved", "ray_moved", "together_of", "two_walls", "slab", "brick", "sure_points", "beyond_plain", "is_below", "round_in", "walls_round", "hull", "are_upright", "hull_corners", "_law_box", "_law_take", "_law_cells", "_law_lists", "_law_same", "_law_meet", "_law_still", "_law_told", "_law_heard", "_law_odd"] : List Str) ++ (["_law_moves_right", "_law_makers_right", "_law_values_right", "law"] : List Str)), []⟩
end Ev

/-! ### the end -/
namespace Ev
open PySem PySem.Spec PyProof.Rows L2
theorem looked : lw.chk = true := by decide +kernel
abbrev loose0 : List PySem.Str := ["Flat", "Unfit", "is_number", "is_from", "is_within", "is_long", "tupled", "ascends", "is_row", "divisor", "is_fraction", "sure_fraction", "made", "is_point", "is_direction", "is_ray", "sure_point", "sure_ray", "parted", "spot", "cross", "dot", "way_between", "upright", "plane_through", "is_wall", "sure_wall", "are_values", "sure_values", "sure_case"]
abbrev loose1 : List PySem.Str := ["least_wall", "other_side", "sum_at", "LONE", "TWO", "is_made", "walls_in", "is_solid", "sure_solid", "letters_in", "together", "both_of", "all_numbers", "ways_of", "determinant", "columns_back", "is_move", "letters_in_move", "sure_move", "least_move", "sure_many", "widened", "upright_ways", "stays", "is_sum", "are_sums", "shifted", "grown", "turned", "mirrored"]
abbrev loose2 : List PySem.Str := ["mixed", "put_together", "back", "growth", "rows_at", "move_at", "case_moved", "wall_in", "wall_moved", "solid_in", "solid_moved", "ray_moved", "together_of", "two_walls", "slab", "brick", "sure_points", "beyond_plain", "is_below", "round_in", "walls_round", "hull", "are_upright", "hull_corners", "_law_box", "_law_take", "_law_cells", "_law_lists", "_law_same", "_law_meet"]
abbrev loose3 : List PySem.Str := ["_law_still", "_law_told", "_law_heard", "_law_odd", "_law_moves_right", "_law_makers_right", "_law_values_right"]
abbrev names : List PySem.Str := loose0 ++ loose1 ++ loose2 ++ loose3
abbrev rowOf : PySem.W.OpenRow := PySem.W.OpenLaw.row PySem.Challenge.rw_solidseen_k24_moves_and_shapes_by_hand
abbrev hook : PySem.W.Hook := hookV 3 lw
def seen_ (s : PySem.W.SharedT) : He.AlT := obsVG 3 lw (HandSHeadRun.getT s)
theorem seen_eq (s : PySem.W.SharedT) : seen_ s = hook.obs s.abs := obsVG_eq (HandSHeadRun.getT_eq s)
theorem top_1 (w : World) : (HandSHeadRun.wholeF (fun p => HandSHeadRun.stepQ (HandSHeadRun.denQ HandSHeadRun.tabQ) p w) HandSHeadRun.fenceQ 5000 rowOf.prog).map (fun x => (HandSHeadRun.looksF rowOf.prog x.1.heap x.2.abs, HandSHeadRun.seenQ (PySem.W.view rowOf.prog [0, 107]) names (PySem.importedModules rowOf.prog.main.body) (fun s => PySem.W.xlAt (PySem.W.view rowOf.prog [0, 107]) [] s && PySem.W.recOk rowOf.toRowW.records s) x.2.abs)) = some (true, PySem.W.openGood (PySem.W.view rowOf.prog [0, 107]) names) := by kernel_rfl
theorem top_2 (w : World) : (HandSHeadRun.wholeF (fun p => HandSHeadRun.stepQ (HandSHeadRun.denQ HandSHeadRun.tabQ) p w) HandSHeadRun.fenceQ 5000 rowOf.prog).map (fun x => (((((lw.fa.all fun f => f.ok (He.frG (HandSHeadRun.getT x.2) (asE (HandSHeadRun.getT x.2) 3 [mainGlobals]))) && lw.dl.all fun d => d.ok (He.frG (HandSHeadRun.getT x.2) (asE (HandSHeadRun.getT x.2) 3 [mainGlobals]))) && lw.ck (He.frG (HandSHeadRun.getT x.2) (asE (HandSHeadRun.getT x.2) 3 [mainGlobals])) : Bool), lw.dl.map fun d => He.fnW (He.frG (HandSHeadRun.getT x.2) (asE (HandSHeadRun.getT x.2) 3 [mainGlobals])) d.at_), lw.dn.map fun y => He.dicW (He.frG (HandSHeadRun.getT x.2) (asE (HandSHeadRun.getT x.2) 3 [mainGlobals])) (He.ga (He.frG (HandSHeadRun.getT x.2) (asE (HandSHeadRun.getT x.2) 3 [mainGlobals])) y))) = some ((true, lw.dl.map He.DefD.val), lw.tbs.map fun t => some (He.keysIn w.params (keysOf t))) := by kernel_rfl
theorem top_runs (w : World) : HandSHeadRun.RunEqI rowOf (PySem.W.view rowOf.prog [0, 107]) hook seen_ 5000 names w := by
  have a := top_1 w
  have b := top_2 w
  unfold HandSHeadRun.RunEqI
  generalize HandSHeadRun.wholeF (fun p => HandSHeadRun.stepQ (HandSHeadRun.denQ HandSHeadRun.tabQ) p w) HandSHeadRun.fenceQ 5000 rowOf.prog = X at a b ⊢
  cases X with
  | none => cases a
  | some x =>
    have a := Option.some.inj a
    have b := Option.some.inj b
    have a1 := congrArg Prod.fst a
    have a2 := congrArg Prod.snd a
    have b1 := congrArg Prod.fst b
    have b2 := congrArg Prod.snd b
    show some (_, _, ((_ : Bool × List He.FnW), (_ : List (Option (List (Option (Str × Int))))))) = some (_, _, (_, _))
    exact congrArg some (Prod.ext a1 (Prod.ext a2 (Prod.ext b1 b2)))
end Ev
namespace Ev.L
open PySem
theorem values_ok : (callN lw.gs lw.fs) 199 92 [] [] = .ok (.bl true) [] := by kernel_rfl
theorem makers_ok : (callN lw.gs lw.fs) 199 91 [] [] = .ok (.bl true) [] := by kernel_rfl
end Ev.L
/-! EvL: the evaluator's equations for simp; what the defs that many laws share come to. -/
namespace Ev.L
open PySem
section
variable {cl : Cl} {gs : Gv} {ar : Nat → Nat} {env : Env} {st : Sto}
@[simp] theorem bind_ok {α β : Type} (a : α) (f : α → Sto → R β) : R.bind (.ok a st) f = f a st := rfl
@[simp] theorem bind_ex {α β : Type} (k : Nat) (a : Option PV) (f : α → Sto → R β) : R.bind (.ex k a st) f = .ex k a st := rfl
@[simp] theorem bind_bad {α β : Type} (f : α → Sto → R β) : R.bind .bad f = .bad := rfl
@[simp] theorem toR_some {α : Type} (a : α) : toR (some a) st = .ok a st := rfl
@[simp] theorem hush_ok {α : Type} (a : α) : R.hush (.ok a st) = .ok a st := rfl
@[simp] theorem stmt_ok {α : Type} (a : α) (f : α → Sto → F) : R.stmt (.ok a st) env f = f a st := rfl
@[simp] theorem stmt_ex {α : Type} (k : Nat) (a : Option PV) (f : α → Sto → F) : R.stmt (.ex k a st) env f = .ex k a env st := rfl
@[simp] theorem then_next (f : Env → Sto → F) : F.then (.next env st) f = f env st := rfl
@[simp] theorem then_ret (v : PV) (f : Env → Sto → F) : F.then (.ret v st) f = .ret v st := rfl
@[simp] theorem then_ex (k : Nat) (a : Option PV) (f : Env → Sto → F) : F.then (.ex k a env st) f = .ex k a env st := rfl
theorem evE_var (i : Nat) : evE cl gs ar (.var i) env st = match env[i]? with | some (some v) => .ok v st | _ => .bad := by rw [evE] <;> rfl
@[simp] theorem ev_int (i : Int) : evE cl gs ar (.int i) env st = .ok (.int i) st := by rw [evE] <;> rfl
@[simp] theorem ev_str (x : List Nat) : evE cl gs ar (.str x) env st = .ok (.str x) st := by rw [evE] <;> rfl
@[simp] theorem ev_bl (b : Bool) : evE cl gs ar (.bl b) env st = .ok (.bl b) st := by rw [evE] <;> rfl
@[simp] theorem ev_non : evE cl gs ar .non env st = .ok .non st := by rw [evE] <;> rfl
@[simp] theorem ev_bin (op : Op) (m : Bool) (a b : E) : evE cl gs ar (.bin op m a b) env st = (evE cl gs ar a env st).bind fun x st => (evE cl gs ar b env st).bind fun y st => binop m st op x y := by rw [evE] <;> rfl
@[simp] theorem ev_cmp (op : Cm) (a b : E) : evE cl gs ar (.cmp op a b) env st = (evE cl gs ar a env st).bind fun x st => (evE cl gs ar b env st).bind fun y st => (toR (cmpop st op x y) st).bind fun c st => .ok (.bl c) st := by rw [evE] <;> rfl
@[simp] theorem ev_tup (es : Es) : evE cl gs ar (.tup es) env st = (evEs cl gs ar es env st).bind fun vs st => mkT vs st := by rw [evE] <;> rfl
@[simp] theorem ev_lst (m : Bool) (es : Es) : evE cl gs ar (.lst m es) env st = (evEs cl gs ar es env st).bind fun vs st => mkL m vs st := by rw [evE] <;> rfl
@[simp] theorem ev_call (f : Nat) (es : Es) : evE cl gs ar (.call f es) env st = (evEs cl gs ar es env st).bind fun vs st => cl f vs st := by rw [evE] <;> rfl
@[simp] theorem ev_not (a : E) : evE cl gs ar (.not_ a) env st = (evE cl gs ar a env st).bind fun x st => (toR (truth st x) st).bind fun c st => .ok (.bl (!c)) st := by rw [evE] <;> rfl
@[simp] theorem ev_ite (c a b : E) : evE cl gs ar (.ite c a b) env st = (evE cl gs ar c env st).bind fun x st => (toR (truth st x) st).bind fun k st => if k then evE cl gs ar a env st else evE cl gs ar b env st := by rw [evE] <;> rfl
@[simp] theorem ev_prim (p : Pr) (m : Bool) (es : Es) : evE cl gs ar (.prim p m es) env st = (evEs cl gs ar es env st).bind fun vs st => prim m st p vs := by rw [evE] <;> rfl
@[simp] theorem ev_isi (a : E) (ts : List Ty) : evE cl gs ar (.isi a ts) env st = (evE cl gs ar a env st).bind fun x st => (toR (tyIs x ts) st).bind fun b st => .ok (.bl b) st := by rw [evE] <;> rfl
@[simp] theorem ev_and (es : Es) : evE cl gs ar (.and_ es) env st = evAnd cl gs ar es env st := by rw [evE] <;> rfl
@[simp] theorem ev_or (es : Es) : evE cl gs ar (.or_ es) env st = evOr cl gs ar es env st := by rw [evE] <;> rfl
@[simp] theorem and_one (e : E) : evAnd cl gs ar (.cons e .nil) env st = evE cl gs ar e env st := by rw [evAnd] <;> rfl
@[simp] theorem and_more (e e2 : E) (r : Es) : evAnd cl gs ar (.cons e (.cons e2 r)) env st = (evE cl gs ar e env st).bind fun x st => (toR (truth st x) st).bind fun c st => if c then evAnd cl gs ar (.cons e2 r) env st else .ok x st := by rw [evAnd] <;> rfl
@[simp] theorem or_one (e : E) : evOr cl gs ar (.cons e .nil) env st = evE cl gs ar e env st := by rw [evOr] <;> rfl
@[simp] theorem or_more (e e2 : E) (r : Es) : evOr cl gs ar (.cons e (.cons e2 r)) env st = (evE cl gs ar e env st).bind fun x st => (toR (truth st x) st).bind fun c st => if c then .ok x st else evOr cl gs ar (.cons e2 r) env st := by rw [evOr] <;> rfl
@[simp] theorem args_nil : evEs cl gs ar .nil env st = .ok [] st := by rw [evEs] <;> rfl
@[simp] theorem ev_neg (a : E) : evE cl gs ar (.neg a) env st = (evE cl gs ar a env st).bind fun x st => match x with | .int i => .ok (.int (-i)) st | _ => .bad := by rw [evE] <;> rfl
@[simp] theorem ev_chain (op op' : Cm) (a b c : E) : evE cl gs ar (.chain op op' a b c) env st = (evE cl gs ar a env st).bind fun x st => (evE cl gs ar b env st).bind fun y st => (toR (cmpop st op x y) st).bind fun k st =>
    if k then (evE cl gs ar c env st).bind fun z st => (toR (cmpop st op' y z) st).bind fun k st => .ok (.bl k) st else .ok (.bl false) st := by rw [evE] <;> rfl
@[simp] theorem ev_isn (ng : Bool) (a : E) : evE cl gs ar (.isn ng a) env st = (evE cl gs ar a env st).bind fun x st => .ok (.bl (match x with | .non => !ng | _ => ng)) st := by rw [evE] <;> rfl
@[simp] theorem ev_idx (a b : E) : evE cl gs ar (.idx a b) env st = (evE cl gs ar a env st).bind fun x st => (evE cl gs ar b env st).bind fun y st => match items st x, y with
    | some xs, .int i => toR (atI xs i) st
    | _, _ => idxS st x y := by rw [evE] <;> rfl
@[simp] theorem ev_slc (m : Bool) (a : E) (lo hi : Es) : evE cl gs ar (.slc m a lo hi) env st = (evE cl gs ar a env st).bind fun x st => (evOp cl gs ar lo env st).bind fun l st => (evOp cl gs ar hi env st).bind fun h st =>
    match x with
    | .tup xs => mkT (cut xs.length (HT.sIx xs.length 0 l) (HT.sIx xs.length xs.length h) xs) st
    | x => match items st x with
      | some xs => mkL m (cut xs.length (HT.sIx xs.length 0 l) (HT.sIx xs.length xs.length h) xs) st
      | none => slcS st l h x := by rw [evE] <;> rfl
@[simp] theorem ev_isx (a : E) (b : Bool) : evE cl gs ar (.isx a b) env st = .ok (.bl b) st := by rw [evE] <;> rfl
/-- a comprehension's turn, its turns, a for's, a while's: not opened by simp unasked -/
def compT (cl : Cl) (gs : Gv) (ar : Nat → Nat) (t : Tg) (cond : Es) (elt : E) (env : Env) (x : PV) (st : Sto) : R (Option PV) :=
  ((asg cl gs ar t x env st).bind fun env st => (evCond cl gs ar cond env st).bind fun b st => if b then (evE cl gs ar elt env st).bind fun v st => .ok (some v) st else .ok none st).hush
def compL (cl : Cl) (gs : Gv) (ar : Nat → Nat) (ks : List (Nat × List PV)) (t : Tg) (cond : Es) (elt : E) (env : Env) (xs : List PV) (st : Sto) : R (List PV) := cLoop ks (fun x st => compT cl gs ar t cond elt env x st) xs st
def forL (cl : Cl) (gs : Gv) (ar : Nat → Nat) (ks : List (Nat × List PV)) (t : Tg) (b : Ss) (xs : List PV) (env : Env) (st : Sto) : F := fLoop ks (fun x env st => asg cl gs ar t x env st) (fun env st => evSs cl gs ar b env st) xs env st
def whlL (cl : Cl) (gs : Gv) (ar : Nat → Nat) (c : E) (b : Ss) (n : Nat) (env : Env) (st : Sto) : F := wLoop (fun env st => (evE cl gs ar c env st).bind fun x st => toR (truth st x) st) (fun env st => evSs cl gs ar b env st) n env st
@[simp] theorem ev_comp (m : Bool) (own : List (Str × Nat)) (t : Tg) (it : It) (cond : Es) (elt : E) : evE cl gs ar (.comp m own t it cond elt) env st = (evIt cl gs ar it env st).bind fun src st =>
    (compL cl gs ar src.2 t cond elt (wipe env (own.map (·.2))) src.1 st).bind fun vs st => mkL m vs st := by rw [evE] <;> rfl
@[simp] theorem ev_meth (k : Me) (o : E) (es : Es) : evE cl gs ar (.meth k o es) env st = (evE cl gs ar o env st).bind fun x st => match isL x with
    | true => (evEs cl gs ar es env st).bind fun vs st => meth st k x vs
    | false => .bad := by rw [evE] <;> rfl
/-- no starred argument -/
def unstar : E → Bool
  | .star _ => false
  | _ => true
theorem args_cons {e : E} (r : Es) (h : unstar e = true) : evEs cl gs ar (.cons e r) env st = (evE cl gs ar e env st).bind fun v st => (evEs cl gs ar r env st).bind fun vs st => .ok (v :: vs) st := by
  cases e <;> first | (cases h; done) | (rw [evEs] <;> first | rfl | (intro _ hh; cases hh))
section
variable {z : Sto}
@[simp] theorem args_var_ (i : Nat) (r : Es) : evEs cl gs ar (.cons (.var i) r) env z = (evE cl gs ar (.var i) env z).bind fun v st => (evEs cl gs ar r env st).bind fun vs st => .ok (v :: vs) st := args_cons r rfl
@[simp] theorem args_int_ (i : Int) (r : Es) : evEs cl gs ar (.cons (.int i) r) env z = (evE cl gs ar (.int i) env z).bind fun v st => (evEs cl gs ar r env st).bind fun vs st => .ok (v :: vs) st := args_cons r rfl
@[simp] theorem args_str_ (x : List Nat) (r : Es) : evEs cl gs ar (.cons (.str x) r) env z = (evE cl gs ar (.str x) env z).bind fun v st => (evEs cl gs ar r env st).bind fun vs st => .ok (v :: vs) st := args_cons r rfl
@[simp] theorem args_bl_ (b : Bool) (r : Es) : evEs cl gs ar (.cons (.bl b) r) env z = (evE cl gs ar (.bl b) env z).bind fun v st => (evEs cl gs ar r env st).bind fun vs st => .ok (v :: vs) st := args_cons r rfl
@[simp] theorem args_non_  (r : Es) : evEs cl gs ar (.cons .non r) env z = (evE cl gs ar .non env z).bind fun v st => (evEs cl gs ar r env st).bind fun vs st => .ok (v :: vs) st := args_cons r rfl
@[simp] theorem args_gv_ (i : Nat) (r : Es) : evEs cl gs ar (.cons (.gv i) r) env z = (evE cl gs ar (.gv i) env z).bind fun v st => (evEs cl gs ar r env st).bind fun vs st => .ok (v :: vs) st := args_cons r rfl
@[simp] theorem args_fnv_ (i : Nat) (r : Es) : evEs cl gs ar (.cons (.fnv i) r) env z = (evE cl gs ar (.fnv i) env z).bind fun v st => (evEs cl gs ar r env st).bind fun vs st => .ok (v :: vs) st := args_cons r rfl
@[simp] theorem args_bin_ (op : Op) (m : Bool) (a b : E) (r : Es) : evEs cl gs ar (.cons (.bin op m a b) r) env z = (evE cl gs ar (.bin op m a b) env z).bind fun v st => (evEs cl gs ar r env st).bind fun vs st => .ok (v :: vs) st := args_cons r rfl
@[simp] theorem args_neg_ (a : E) (r : Es) : evEs cl gs ar (.cons (.neg a) r) env z = (evE cl gs ar (.neg a) env z).bind fun v st => (evEs cl gs ar r env st).bind fun vs st => .ok (v :: vs) st := args_cons r rfl
@[simp] theorem args_cmp_ (op : Cm) (a b : E) (r : Es) : evEs cl gs ar (.cons (.cmp op a b) r) env z = (evE cl gs ar (.cmp op a b) env z).bind fun v st => (evEs cl gs ar r env st).bind fun vs st => .ok (v :: vs) st := args_cons r rfl
@[simp] theorem args_chain_ (op op' : Cm) (a b c : E) (r : Es) : evEs cl gs ar (.cons (.chain op op' a b c) r) env z = (evE cl gs ar (.chain op op' a b c) env z).bind fun v st => (evEs cl gs ar r env st).bind fun vs st => .ok (v :: vs) st := args_cons r rfl
@[simp] theorem args_isn_ (neg : Bool) (a : E) (r : Es) : evEs cl gs ar (.cons (.isn neg a) r) env z = (evE cl gs ar (.isn neg a) env z).bind fun v st => (evEs cl gs ar r env st).bind fun vs st => .ok (v :: vs) st := args_cons r rfl
@[simp] theorem args_and_ (es : Es) (r : Es) : evEs cl gs ar (.cons (.and_ es) r) env z = (evE cl gs ar (.and_ es) env z).bind fun v st => (evEs cl gs ar r env st).bind fun vs st => .ok (v :: vs) st := args_cons r rfl
@[simp] theorem args_or_ (es : Es) (r : Es) : evEs cl gs ar (.cons (.or_ es) r) env z = (evE cl gs ar (.or_ es) env z).bind fun v st => (evEs cl gs ar r env st).bind fun vs st => .ok (v :: vs) st := args_cons r rfl
@[simp] theorem args_not_ (a : E) (r : Es) : evEs cl gs ar (.cons (.not_ a) r) env z = (evE cl gs ar (.not_ a) env z).bind fun v st => (evEs cl gs ar r env st).bind fun vs st => .ok (v :: vs) st := args_cons r rfl
@[simp] theorem args_ite_ (c a b : E) (r : Es) : evEs cl gs ar (.cons (.ite c a b) r) env z = (evE cl gs ar (.ite c a b) env z).bind fun v st => (evEs cl gs ar r env st).bind fun vs st => .ok (v :: vs) st := args_cons r rfl
@[simp] theorem args_tup_ (es : Es) (r : Es) : evEs cl gs ar (.cons (.tup es) r) env z = (evE cl gs ar (.tup es) env z).bind fun v st => (evEs cl gs ar r env st).bind fun vs st => .ok (v :: vs) st := args_cons r rfl
@[simp] theorem args_lst_ (m : Bool) (es : Es) (r : Es) : evEs cl gs ar (.cons (.lst m es) r) env z = (evE cl gs ar (.lst m es) env z).bind fun v st => (evEs cl gs ar r env st).bind fun vs st => .ok (v :: vs) st := args_cons r rfl
@[simp] theorem args_idx_ (a b : E) (r : Es) : evEs cl gs ar (.cons (.idx a b) r) env z = (evE cl gs ar (.idx a b) env z).bind fun v st => (evEs cl gs ar r env st).bind fun vs st => .ok (v :: vs) st := args_cons r rfl
@[simp] theorem args_slc_ (m : Bool) (a : E) (lo hi : Es) (r : Es) : evEs cl gs ar (.cons (.slc m a lo hi) r) env z = (evE cl gs ar (.slc m a lo hi) env z).bind fun v st => (evEs cl gs ar r env st).bind fun vs st => .ok (v :: vs) st := args_cons r rfl
@[simp] theorem args_stp_ (m : Bool) (a : E) (lo hi st : Es) (r : Es) : evEs cl gs ar (.cons (.stp m a lo hi st) r) env z = (evE cl gs ar (.stp m a lo hi st) env z).bind fun v st => (evEs cl gs ar r env st).bind fun vs st => .ok (v :: vs) st := args_cons r rfl
@[simp] theorem args_call_ (f : Nat) (es : Es) (r : Es) : evEs cl gs ar (.cons (.call f es) r) env z = (evE cl gs ar (.call f es) env z).bind fun v st => (evEs cl gs ar r env st).bind fun vs st => .ok (v :: vs) st := args_cons r rfl
@[simp] theorem args_callk_ (f : Nat) (es : Es) (ks : List Nat) (kes : Es) (r : Es) : evEs cl gs ar (.cons (.callk f es ks kes) r) env z = (evE cl gs ar (.callk f es ks kes) env z).bind fun v st => (evEs cl gs ar r env st).bind fun vs st => .ok (v :: vs) st := args_cons r rfl
@[simp] theorem args_callv_ (f : E) (es : Es) (r : Es) : evEs cl gs ar (.cons (.callv f es) r) env z = (evE cl gs ar (.callv f es) env z).bind fun v st => (evEs cl gs ar r env st).bind fun vs st => .ok (v :: vs) st := args_cons r rfl
@[simp] theorem args_prim_ (p : Pr) (m : Bool) (es : Es) (r : Es) : evEs cl gs ar (.cons (.prim p m es) r) env z = (evE cl gs ar (.prim p m es) env z).bind fun v st => (evEs cl gs ar r env st).bind fun vs st => .ok (v :: vs) st := args_cons r rfl
@[simp] theorem args_isi_ (a : E) (ts : List Ty) (r : Es) : evEs cl gs ar (.cons (.isi a ts) r) env z = (evE cl gs ar (.isi a ts) env z).bind fun v st => (evEs cl gs ar r env st).bind fun vs st => .ok (v :: vs) st := args_cons r rfl
@[simp] theorem args_isx_ (a : E) (b : Bool) (r : Es) : evEs cl gs ar (.cons (.isx a b) r) env z = (evE cl gs ar (.isx a b) env z).bind fun v st => (evEs cl gs ar r env st).bind fun vs st => .ok (v :: vs) st := args_cons r rfl
@[simp] theorem args_comp_ (m : Bool) (own : List (Str × Nat)) (t : Tg) (it : It) (cond : Es) (elt : E) (r : Es) : evEs cl gs ar (.cons (.comp m own t it cond elt) r) env z = (evE cl gs ar (.comp m own t it cond elt) env z).bind fun v st => (evEs cl gs ar r env st).bind fun vs st => .ok (v :: vs) st := args_cons r rfl
@[simp] theorem args_meth_ (k : Me) (o : E) (es : Es) (r : Es) : evEs cl gs ar (.cons (.meth k o es) r) env z = (evE cl gs ar (.meth k o es) env z).bind fun v st => (evEs cl gs ar r env st).bind fun vs st => .ok (v :: vs) st := args_cons r rfl
end
@[simp] theorem args_star (e : E) (r : Es) : evEs cl gs ar (.cons (.star e) r) env st = (evE cl gs ar e env st).bind fun x st => (toR (items st x) st).bind fun xs st => (evEs cl gs ar r env st).bind fun vs st => .ok (xs ++ vs) st := by rw [evEs] <;> rfl
@[simp] theorem op_nil : evOp cl gs ar .nil env st = .ok none st := by rw [evOp] <;> rfl
@[simp] theorem op_one (e : E) (r : Es) : evOp cl gs ar (.cons e r) env st = (evE cl gs ar e env st).bind fun x st => match x with | .int i => .ok (some i) st | _ => .bad := by rw [evOp] <;> rfl
@[simp] theorem cond_nil : evCond cl gs ar .nil env st = .ok true st := by rw [evCond] <;> rfl
@[simp] theorem cond_one (e : E) (r : Es) : evCond cl gs ar (.cons e r) env st = (evE cl gs ar e env st).bind fun x st => toR (truth st x) st := by rw [evCond] <;> rfl
@[simp] theorem it_e (a : E) : evIt cl gs ar (.e a) env st = (evE cl gs ar a env st).bind fun x st => toR (srcS st x) st := by rw [evIt] <;> rfl
@[simp] theorem it_range (es : Es) : evIt cl gs ar (.range es) env st = (evEs cl gs ar es env st).bind fun vs st => (toR (rangeOf vs) st).bind fun xs st => .ok (xs, []) st := by rw [evIt] <;> rfl
@[simp] theorem it_zip (a b : E) : evIt cl gs ar (.zip a b) env st = (evE cl gs ar a env st).bind fun x st => (evE cl gs ar b env st).bind fun y st => match srcOf st x, srcOf st y with
    | some xs, some ys => .ok (zipT xs.1 ys.1, xs.2 ++ ys.2) st
    | _, _ => .bad := by rw [evIt] <;> rfl
@[simp] theorem srcS_tup (xs : List PV) : srcS st (.tup xs) = srcOf st (.tup xs) := rfl
@[simp] theorem srcS_pl (xs : List PV) : srcS st (.pl xs) = srcOf st (.pl xs) := rfl
@[simp] theorem srcS_scr (xs : List PV) : srcS st (.scr xs) = srcOf st (.scr xs) := rfl
@[simp] theorem srcS_ml (i : Nat) : srcS st (.ml i) = srcOf st (.ml i) := rfl
@[simp] theorem srcS_str (z : List Nat) : srcS st (.str z) = some (z.map fun c => .str [c], []) := rfl
theorem srcS_some {x : PV} {src : Src} (h : srcOf st x = some src) : srcS st x = some src := by cases x <;> first | exact h | cases h
@[simp] theorem src_tup (xs : List PV) : srcOf st (.tup xs) = some (xs, []) := rfl
@[simp] theorem src_pl (xs : List PV) : srcOf st (.pl xs) = some (xs, []) := rfl
@[simp] theorem src_scr (xs : List PV) : srcOf st (.scr xs) = some (xs, []) := rfl
@[simp] theorem asg_name (i : Nat) (v : PV) : asg cl gs ar (.name i) v env st = if i < env.length then .ok (env.set i (some v)) st else .bad := by rw [asg] <;> rfl
@[simp] theorem asg_tup (ts : Tgs) (v : PV) : asg cl gs ar (.tup ts) v env st = (toR (items st v) st).bind fun xs st => if xs.length = ts.len then asgs cl gs ar ts xs env st else .bad := by rw [asg] <;> rfl
@[simp] theorem asgs_nil : asgs cl gs ar .nil [] env st = .ok env st := by rw [asgs] <;> rfl
@[simp] theorem asgs_cons (t : Tg) (r : Tgs) (x : PV) (xs : List PV) : asgs cl gs ar (.cons t r) (x :: xs) env st = (asg cl gs ar t x env st).bind fun env st => asgs cl gs ar r xs env st := by rw [asgs] <;> rfl
@[simp] theorem s_set (t : Tg) (e : E) : evS cl gs ar (.set t e) env st = (evE cl gs ar e env st).stmt env fun v st => (asg cl gs ar t v env st).stmt env fun env st => .next env st := by rw [evS] <;> rfl
@[simp] theorem s_expr (e : E) : evS cl gs ar (.expr e) env st = (evE cl gs ar e env st).stmt env fun _ st => .next env st := by rw [evS] <;> rfl
@[simp] theorem s_ret (e : E) : evS cl gs ar (.ret e) env st = (evE cl gs ar e env st).stmt env fun v st => .ret v st := by rw [evS] <;> rfl
@[simp] theorem s_if (c : E) (a b : Ss) : evS cl gs ar (.iff c a b) env st = (evE cl gs ar c env st).stmt env fun x st => (toR (truth st x) st).stmt env fun k st => if k then evSs cl gs ar a env st else evSs cl gs ar b env st := by rw [evS] <;> rfl
@[simp] theorem s_for (t : Tg) (it : It) (b : Ss) : evS cl gs ar (.for_ t it b) env st = (evIt cl gs ar it env st).stmt env fun src st => forL cl gs ar src.2 t b src.1 env st := by rw [evS] <;> rfl
@[simp] theorem s_whl (c : E) (b : Ss) : evS cl gs ar (.whl c b) env st = whlL cl gs ar c b wFuel env st := by rw [evS] <;> rfl
@[simp] theorem s_raise (k : Nat) : evS cl gs ar (.raise k) env st = .ex k none env st := by rw [evS] <;> rfl
@[simp] theorem s_try (b : Ss) (hs : Hs) : evS cl gs ar (.try_ b hs) env st = match evSs cl gs ar b env st with | .ex k a env st => evHs cl gs ar hs k a env st | r => r := by rw [evS] <;> rfl
@[simp] theorem ss_nil : evSs cl gs ar .nil env st = .next env st := by rw [evSs] <;> rfl
@[simp] theorem ss_cons (s : S) (r : Ss) : evSs cl gs ar (.cons s r) env st = (evS cl gs ar s env st).then fun env st => evSs cl gs ar r env st := by rw [evSs] <;> rfl
theorem b_add (m : Bool) (a b : Int) : binop m st .add (.int a) (.int b) = .ok (.int (a + b)) st := rfl
theorem b_addT (m : Bool) (a b : List PV) : binop m st .add (.tup a) (.tup b) = mkT (a ++ b) st := rfl
theorem b_addL (a b : List PV) : binop false st .add (.pl a) (.pl b) = mkL false (a ++ b) st := rfl
theorem b_sub (m : Bool) (a b : Int) : binop m st .sub (.int a) (.int b) = .ok (.int (a - b)) st := rfl
theorem b_mul (m : Bool) {a b : Int} (h : mulOk a b = true) : binop m st .mul (.int a) (.int b) = .ok (.int (a * b)) st := by show (if mulOk a b = true then _ else _) = _; rw [if_pos h] <;> rfl
theorem b_fdiv (m : Bool) {a b : Int} (h : fdivOk b = true) : binop m st .fdiv (.int a) (.int b) = .ok (.int (a / b)) st := by show (if fdivOk b = true then _ else _) = _; rw [if_pos h] <;> rfl
theorem b_mod (m : Bool) {a b : Int} (h : 0 < b) : binop m st .mod (.int a) (.int b) = .ok (.int (a % b)) st := by show (if decide (0 < b) = true then _ else _) = _; rw [if_pos (decide_eq_true h)] <;> rfl
theorem c_lt (a b : Int) : cmpop st .lt (.int a) (.int b) = some (decide (a < b)) := rfl
theorem c_le (a b : Int) : cmpop st .le (.int a) (.int b) = some (decide (a ≤ b)) := rfl
theorem c_gt (a b : Int) : cmpop st .gt (.int a) (.int b) = some (decide (b < a)) := rfl
theorem c_ge (a b : Int) : cmpop st .ge (.int a) (.int b) = some (decide (b ≤ a)) := rfl
theorem c_eq (a b : Int) : cmpop st .eq (.int a) (.int b) = some (a == b) := rfl
theorem c_ne (a b : Int) : cmpop st .ne (.int a) (.int b) = some (!(a == b)) := rfl
theorem c_eqT {xs ys : List PV} (h1 : plain 60 (.tup xs) = true) (h2 : plain 60 (.tup ys) = true) : cmpop st .eq (.tup xs) (.tup ys) = some (peqs xs ys) := by
  show (if (plain 60 (.tup xs) && plain 60 (.tup ys)) = true then _ else _) = _
  rw [h1, h2] <;> rfl
theorem c_neT {xs ys : List PV} (h1 : plain 60 (.tup xs) = true) (h2 : plain 60 (.tup ys) = true) : cmpop st .ne (.tup xs) (.tup ys) = some (!peqs xs ys) := by
  show Option.map _ (if (plain 60 (.tup xs) && plain 60 (.tup ys)) = true then _ else _) = _
  rw [h1, h2] <;> rfl
theorem t_bl (b : Bool) : truth st (.bl b) = some b := rfl
theorem p_lenT (m : Bool) (xs : List PV) : prim m st .len [.tup xs] = .ok (.int (xs.length : Nat)) st := rfl
theorem p_lenL (m : Bool) (xs : List PV) : prim m st .len [.pl xs] = .ok (.int (xs.length : Nat)) st := rfl
theorem p_lenS (m : Bool) (xs : List PV) : prim m st .len [.scr xs] = .ok (.int (xs.length : Nat)) st := rfl
theorem p_int (m : Bool) (i : Int) : prim m st .int [.int i] = .ok (.int i) st := rfl
theorem p_intB (m : Bool) (b : Bool) : prim m st .int [.bl b] = .ok (.int (if b then 1 else 0)) st := rfl
theorem p_abs (m : Bool) (i : Int) : prim m st .abs [.int i] = .ok (.int (if i < 0 then -i else i)) st := rfl
theorem p_tupL (m : Bool) (xs : List PV) : prim m st .tuple [.pl xs] = mkT xs st := rfl
theorem p_tupT (m : Bool) (xs : List PV) : prim m st .tuple [.tup xs] = mkT xs st := rfl
theorem p_listL (m : Bool) (xs : List PV) : prim m st .list [.pl xs] = mkL m xs st := rfl
theorem p_listT (m : Bool) (xs : List PV) : prim m st .list [.tup xs] = mkL m xs st := rfl
@[simp] theorem keeps_nil : keeps st [] = true := rfl
@[simp] theorem leave_pure (k : Bool) (v : PV) : leave k st.length v st = .ok v st := by simp [leave]
@[simp] theorem finish_ret (k : Bool) (v : PV) : finish k st.length (.ret v st) = .ok v st := leave_pure k v
theorem forL_cons {t : Tg} {b : Ss} {x : PV} {xs : List PV} {e e1 e2 : Env} {st st' : Sto} (h1 : asg cl gs ar t x e st = .ok e1 st) (h2 : evSs cl gs ar b e1 st = .next e2 st') :
    forL cl gs ar [] t b (x :: xs) e st = forL cl gs ar [] t b xs e2 st' := by
  unfold forL
  rw [fLoop, h1]
  simp only [h2, keeps_nil, if_true]
/-- a for whose turns leave the store as it is: Q holds of what is left and of the names -/
theorem forL_inv {t : Tg} {b : Ss} {st : Sto} (Q : List PV → Env → Prop) (step : ∀ x r e, Q (x :: r) e → ∃ e1 e2, asg cl gs ar t x e st = .ok e1 st ∧ evSs cl gs ar b e1 st = .next e2 st ∧ Q r e2) :
    ∀ (xs : List PV) (e : Env), Q xs e → ∃ e', forL cl gs ar [] t b xs e st = .next e' st ∧ Q [] e'
  | [], e, h => ⟨e, rfl, h⟩
  | x :: xs, e, h => by
    obtain ⟨e1, e2, h1, h2, h3⟩ := step x xs e h
    obtain ⟨e', h4, h5⟩ := forL_inv Q step xs e2 h3
    refine ⟨e', ?_, h5⟩
    unfold forL at h4 ⊢
    rw [fLoop, h1]
    simp only [h2, keeps_nil, if_true]
    exact h4
/-- a for whose turns may change the store -/
theorem forL_invS {t : Tg} {b : Ss} (Q : List PV → Env → Sto → Prop) (step : ∀ x r e st, Q (x :: r) e st → ∃ e1 e2 st', asg cl gs ar t x e st = .ok e1 st ∧ evSs cl gs ar b e1 st = .next e2 st' ∧ Q r e2 st') :
    ∀ (xs : List PV) (e : Env) (st : Sto), Q xs e st → ∃ e' st', forL cl gs ar [] t b xs e st = .next e' st' ∧ Q [] e' st'
  | [], e, st, h => ⟨e, st, rfl, h⟩
  | x :: xs, e, st, h => by
    obtain ⟨e1, e2, st1, h1, h2, h3⟩ := step x xs e st h
    obtain ⟨e', st', h4, h5⟩ := forL_invS Q step xs e2 st1 h3
    refine ⟨e', st', ?_, h5⟩
    unfold forL at h4 ⊢
    rw [fLoop, h1]
    simp only [h2, keeps_nil, if_true]
    exact h4
/-- a comprehension whose turns leave the store as it is -/
theorem compL_pure {t : Tg} {cond : Es} {elt : E} {st : Sto} {env : Env} (g : PV → PV) : ∀ xs : List PV, (∀ x ∈ xs, compT cl gs ar t cond elt env x st = .ok (some (g x)) st) → compL cl gs ar [] t cond elt env xs st = .ok (xs.map g) st
  | [], _ => rfl
  | x :: xs, h => by
    have q := compL_pure g xs fun y hy => h y (by simp [hy])
    unfold compL at q ⊢
    rw [cLoop, h x (by simp)]
    simp [q]
theorem compL_nil {t : Tg} {cond : Es} {elt : E} {st : Sto} {ks : List (Nat × List PV)} : compL cl gs ar ks t cond elt env [] st = .ok [] st := rfl
theorem compL_cons {t : Tg} {cond : Es} {elt : E} {st : Sto} {ks : List (Nat × List PV)} (x : PV) (xs : List PV) : compL cl gs ar ks t cond elt env (x :: xs) st =
    (compT cl gs ar t cond elt env x st).bind fun o st => if keeps st ks then (compL cl gs ar ks t cond elt env xs st).bind fun r st => .ok (match o with | some v => v :: r | none => r) st else .bad := rfl
/-- how many arguments each def takes -/
def arOf (fs : List Fn) (i : Nat) : Nat := match fs[i]? with | some g => g.np | none => 0
/-- what a call comes to -/
theorem call_eq {fs : List Fn} {n f : Nat} {fn : Fn} {vs : List PV} (hf : fs[f]? = some fn) (hl : vs.length = fn.np) :
    callN gs fs (n + 1) f vs st = finish fn.keep st.length (evSs (callN gs fs n) gs (arOf fs) fn.body (vs.map some ++ List.replicate (fn.N.length - vs.length) none) st) := by
  show (match fs[f]? with | none => _ | some fn => _) = _
  rw [hf]; show (if vs.length = fn.np then _ else _) = _
  rw [if_pos hl] <;> rfl
end

/-! ### defs that many laws share -/
section
variable {gs : Gv} {fs : List Fn}
def isI : PV → Bool
  | .int _ => true
  | _ => false
/-- plain data: no list of the store, no def -/
def data : PV → Bool
  | .non => true | .bl _ => true | .int _ => true | .str _ => true | .tup _ => true | .pl _ => true | .scr _ => true | .ml _ => true
  | .fn _ => false | .exn => false | .dic _ _ => false | .md _ => false
@[simp] theorem data_non  : data .non = true := id rfl
@[simp] theorem data_bl (b : Bool) : data (.bl b) = true := id rfl
@[simp] theorem data_int (i : Int) : data (.int i) = true := id rfl
@[simp] theorem data_str (x : List Nat) : data (.str x) = true := id rfl
@[simp] theorem data_tup (xs : List PV) : data (.tup xs) = true := id rfl
@[simp] theorem data_pl (xs : List PV) : data (.pl xs) = true := id rfl
@[simp] theorem data_scr (xs : List PV) : data (.scr xs) = true := id rfl
@[simp] theorem data_ml (i : Nat) : data (.ml i) = true := id rfl
def g_is_number : Fn := ⟨"is_number", 1, ["thing"], (.cons
  (.ret (.and_ (.cons (.isi (.var 0) [.int]) (.cons (.not_ (.isi (.var 0) [.bool])) .nil))))
  .nil), false⟩
theorem is_number_ok {i : Nat} (hi : fs[i]? = some g_is_number) (v : PV) (hd : data v = true) (n : Nat) (st : Sto) : callN gs fs (n + 1) i [v] st = .ok (.bl (isI v)) st := by
  rw [call_eq hi rfl]
  cases v <;> simp [g_is_number, evE_var, tyIs, truth, isI] <;> cases hd
def isFrom : PV → Int → Bool
  | .int i, l => decide (l ≤ i)
  | _, _ => false
def g_is_from (a : Nat) : Fn := ⟨"is_from", 2, ["thing", "least"], (.cons
  (.ret (.and_ (.cons (.call a (.cons (.var 0) .nil)) (.cons (.cmp .ge (.var 0) (.var 1)) .nil))))
  .nil), false⟩
theorem is_from_ok {i a : Nat} (hi : fs[i]? = some (g_is_from a)) (ha : fs[a]? = some g_is_number) (v : PV) (l : Int) (hd : data v = true) (n : Nat) (st : Sto) : callN gs fs (n + 2) i [v, .int l] st = .ok (.bl (isFrom v l)) st := by
  rw [call_eq hi rfl]
  cases v <;> simp [g_is_from, args_cons, unstar, evE_var, is_number_ok ha, isI, truth, isFrom, cmpop] <;> cases hd
def isLong : PV → Int → Bool
  | .tup xs, l => decide ((xs.length : Int) = l)
  | _, _ => false
def g_is_long : Fn := ⟨"is_long", 2, ["thing", "length"], (.cons
  (.ret (.and_ (.cons (.isi (.var 0) [.tuple]) (.cons (.cmp .eq (.prim .len false (.cons (.var 0) .nil)) (.var 1)) .nil))))
  .nil), false⟩
theorem is_long_ok {i : Nat} (hi : fs[i]? = some g_is_long) (v : PV) (l : Int) (hd : data v = true) (n : Nat) (st : Sto) : callN gs fs (n + 1) i [v, .int l] st = .ok (.bl (isLong v l)) st := by
  rw [call_eq hi rfl]
  cases v <;> simp [g_is_long, args_cons, unstar, evE_var, tyIs, truth, isLong, cmpop, prim, items, eqv, deref, plain, peq] <;> first | (cases hd; done) | rfl

/-- trees of plain data, at most d deep -/
def tree : Nat → PV → Bool
  | _, .non => true
  | _, .bl _ => true
  | _, .int _ => true
  | _, .str x => x.all fun c => decide (c < 1114112)
  | d + 1, .tup xs => lineOk xs && xs.all (tree d)
  | d + 1, .pl xs => lineOk xs && xs.all (tree d)
  | _, _ => false
def tupz : Nat → PV → PV
  | d + 1, .tup xs => .tup (xs.map (tupz d))
  | d + 1, .pl xs => .tup (xs.map (tupz d))
  | _, v => v
def g_tupled (i : Nat) : Fn := ⟨"tupled", 1, ["value", "own"], (.cons
  (.ret (.ite (.isi (.var 0) [.list, .tuple]) (.prim .tuple false (.cons (.comp false [("own", 1)] (.name 1) (.e (.var 0)) .nil (.call i (.cons (.var 1) .nil))) .nil)) (.var 0)))
  .nil), false⟩
theorem tupled_ok {i : Nat} (hi : fs[i]? = some (g_tupled i)) : ∀ (d : Nat) (v : PV), tree d v = true → ∀ (n : Nat) (st : Sto), d < n → callN gs fs n i [v] st = .ok (tupz d v) st
  | 0, v, h, n, st, hn => by
    obtain ⟨m, rfl⟩ : ∃ m, n = m + 1 := ⟨n - 1, by omega⟩
    rw [call_eq hi rfl]
    cases v <;> first | (cases h; done) | simp [g_tupled, evE_var, tyIs, truth, tupz]
  | d + 1, v, h, n, st, hn => by
    obtain ⟨m, rfl⟩ : ∃ m, n = m + 1 := ⟨n - 1, by omega⟩
    rw [call_eq hi rfl]
    have rows : ∀ xs : List PV, lineOk xs = true → xs.all (tree d) = true → ∀ x ∈ xs, callN gs fs m i [x] st = .ok (tupz d x) st := fun xs _ h x hx => tupled_ok hi d x (List.all_eq_true.mp h x hx) m st (by omega)
    cases v with
    | tup xs =>
      obtain ⟨h1, h2⟩ := Bool.and_eq_true_iff.mp h
      simp [g_tupled, evE_var, tyIs, truth, tupz, srcOf, wipe]
      rw [compL_pure (tupz d) xs fun x hx => by simp [compT, evE_var, rows xs h1 h2 x hx]]
      have h3 : lineOk (xs.map (tupz d)) = true := by simpa [lineOk] using h1
      simp [mkL, mkT, prim, items, h3]
    | pl xs =>
      obtain ⟨h1, h2⟩ := Bool.and_eq_true_iff.mp h
      simp [g_tupled, evE_var, tyIs, truth, tupz, srcOf, wipe]
      rw [compL_pure (tupz d) xs fun x hx => by simp [compT, evE_var, rows xs h1 h2 x hx]]
      have h3 : lineOk (xs.map (tupz d)) = true := by simpa [lineOk] using h1
      simp [mkL, mkT, prim, items, h3]
    | _ => first | (cases h; done) | simp [g_tupled, evE_var, tyIs, truth, tupz]
/-- the greatest common divisor, from g on -/
def gcdl : Int → List Int → Int
  | g, [] => g
  | g, x :: r => gcdl (Nat.gcd g.natAbs x.natAbs : Nat) r
def g_divisor : Fn := ⟨"divisor", 1, ["numbers", "found", "own"], (.cons
  (.set (.name 1) (.int 0))
  (.cons
  (.for_ (.name 2) (.e (.var 0)) (.cons
   (.set (.name 1) (.prim .gcd false (.cons (.var 1) (.cons (.var 2) .nil))))
   .nil))
  (.cons
  (.ret (.var 1))
  .nil))), false⟩
theorem divisor_loop {cl : Cl} {ar : Nat → Nat} {st : Sto} {v : PV} (l : List Int) (g : Int) (o : Option PV) : ∃ o', forL cl gs ar [] (.name 2) (.cons (.set (.name 1) (.prim .gcd false (.cons (.var 1) (.cons (.var 2) .nil)))) .nil)
    (l.map .int) [some v, some (.int g), o] st = .next [some v, some (.int (gcdl g l)), o'] st := by
  obtain ⟨e', h1, l', g', o', h2, h3, h4⟩ := forL_inv (cl := cl) (gs := gs) (ar := ar) (t := .name 2) (b := (.cons (.set (.name 1) (.prim .gcd false (.cons (.var 1) (.cons (.var 2) .nil)))) .nil)) (st := st)
    (fun r e => ∃ l' g' o', r = l'.map .int ∧ e = [some v, some (.int g'), o'] ∧ gcdl g' l' = gcdl g l)
    (fun x r e ⟨l', g', o', h1, h2, h3⟩ => by
      cases l' with
      | nil => cases h1
      | cons y l' =>
        rw [List.map_cons] at h1
        injection h1 with h1 h4
        subst h1 h2
        exact ⟨[some v, some (.int g'), some (.int y)], [some v, some (.int (Nat.gcd g'.natAbs y.natAbs : Nat)), some (.int y)], by simp, by simp [evE_var, prim], l', _, _, h4, rfl, h3⟩) (l.map .int) [some v, some (.int g), o] ⟨l, g, o, rfl, rfl, rfl⟩
  cases l' with
  | nil => exact ⟨o', by rw [h1, h3, ← h4]; rfl⟩
  | cons => cases h2
theorem divisor_ok {i : Nat} (hi : fs[i]? = some g_divisor) (l : List Int) (n : Nat) (st : Sto) : callN gs fs (n + 1) i [.tup (l.map .int)] st = .ok (.int (gcdl 0 l)) st ∧ callN gs fs (n + 1) i [.pl (l.map .int)] st = .ok (.int (gcdl 0 l)) st := by
  refine ⟨?_, ?_⟩
  · rw [call_eq hi rfl]
    obtain ⟨o, e⟩ := divisor_loop (cl := callN gs fs n) (ar := arOf fs) (gs := gs) (st := st) (v := .tup (l.map .int)) l 0 none
    simp [g_divisor, evE_var, srcOf, e]
  · rw [call_eq hi rfl]
    obtain ⟨o, e⟩ := divisor_loop (cl := callN gs fs n) (ar := arOf fs) (gs := gs) (st := st) (v := .pl (l.map .int)) l 0 none
    simp [g_divisor, evE_var, srcOf, e]
end
end Ev.L

/-! EvL2: the laws' own defs: the source of draws. -/
namespace Ev.L
open PySem
section
variable {gs : Gv} {fs : List Fn}
@[simp] theorem finish_ret_le {k : Bool} {n : Nat} {v : PV} {st : Sto} (h : st.length ≤ n) : finish k n (.ret v st) = .ok v st := by
  show leave k n v st = _
  simp [leave, h]
theorem at0 (x : PV) (r : List PV) : atI (x :: r) 0 = some x := by
  have h : (0 : Int) < (r.length : Int) + 1 := by omega
  simp [atI, ixN, h]
theorem at1 (x y : PV) (r : List PV) : atI (x :: y :: r) 1 = some y := by
  have h : (1 : Int) < (r.length : Int) + 1 + 1 := by omega
  simp [atI, ixN, h]
theorem at2 (x y z : PV) (r : List PV) : atI (x :: y :: z :: r) 2 = some z := by
  have h : (2 : Int) < (r.length : Int) + 1 + 1 + 1 := by omega
  simp [atI, ixN, h]
theorem at3 (x y z u : PV) (r : List PV) : atI (x :: y :: z :: u :: r) 3 = some u := by
  have h : (3 : Int) < (r.length : Int) + 1 + 1 + 1 + 1 := by omega
  simp [atI, ixN, h]
/-- a source of which K numbers at most were drawn -/
def Tin (K : Nat) (h : List PV) : Prop := ∃ a b c : Int, h = [.int a, .int b, .int c] ∧ 0 ≤ b ∧ b ≤ 4611686018427387904 ∧ 0 ≤ c ∧ c ≤ K
theorem Tin.mono {K K' : Nat} {h : List PV} (t : Tin K h) (le : K ≤ K') : Tin K' h := by
  obtain ⟨a, b, c, e, b0, b1, c0, c1⟩ := t
  exact ⟨a, b, c, e, b0, b1, c0, by omega⟩
def g_take (N : List Str) : Fn := ⟨"_law_take", 2, N, (.cons
  (.iff (.cmp .gt (.idx (.var 0) (.int 0)) (.int 0)) (.cons
   (.set (.name 5) (.bin .mod false (.prim .int false (.cons (.idx (.var 0) (.int 0)) .nil)) (.var 1)))
   (.cons
   (.set (.sub (.var 0) (.int 0)) (.bin .fdiv false (.idx (.var 0) (.int 0)) (.var 1)))
   (.cons
   (.ret (.var 5))
   .nil))) .nil)
  (.cons
  (.set (.sub (.var 0) (.int 2)) (.bin .add false (.idx (.var 0) (.int 2)) (.int 1)))
  (.cons
  (.set (.name 2) (.bin .mod false (.prim .int false (.cons (.bin .mul false (.bin .add false (.idx (.var 0) (.int 1)) (.bin .mul false (.int 48271) (.idx (.var 0) (.int 2)))) (.bin .add false (.int 39373) (.idx (.var 0) (.int 2)))) .nil)) (.int 2147483647)))
  (.cons
  (.set (.name 3) (.bin .add false (.bin .mod false (.prim .int false (.cons (.var 2) .nil)) (.int 40009)) (.int 7)))
  (.cons
  (.set (.name 4) (.bin .mod false (.prim .int false (.cons (.bin .mul false (.bin .add false (.bin .add false (.var 2) (.idx (.var 0) (.int 2))) (.bin .fdiv false (.idx (.var 0) (.int 1)) (.int 1000003))) (.var 3)) .nil)) (.int 2147483629)))
  (.cons
  (.ret (.bin .mod false (.prim .int false (.cons (.bin .fdiv false (.bin .mod false (.prim .int false (.cons (.bin .add false (.bin .mul false (.var 4) (.int 48271)) (.var 2)) .nil)) (.int 2147483587)) (.int 64)) .nil)) (.var 1)))
  .nil)))))), false⟩
@[simp] theorem asg_sub {cl : Cl} {ar : Nat → Nat} {env : Env} {st : Sto} (o i : E) (v : PV) : asg cl gs ar (.sub o i) v env st = (evE cl gs ar o env st).hush.bind fun x st => (evE cl gs ar i env st).hush.bind fun y st => match x, y with
    | .ml k, .int j => match st[k]? with
      | some xs => match ixN xs.length j with
        | some n => .ok env (st.set k (xs.set n v))
        | none => .bad
      | none => .bad
    | _, _ => asgS st env x y v := by rw [asg] <;> rfl
theorem mulOk_l {i j : Int} (h : i.natAbs < 18446744073709551616) : mulOk i j = true := by simp [mulOk, h]
theorem mulOk_r {i j : Int} (h : j.natAbs < 18446744073709551616) : mulOk i j = true := by simp [mulOk, h]
theorem fdivOk_small {j : Int} (h0 : 0 < j) (h1 : j < 18446744073709551616) : fdivOk j = true := by
  have h2 : j.natAbs.log2 < 64 := by
    have : j.natAbs < 2 ^ 64 := by omega
    exact (Nat.log2_lt (by omega)).mpr this
  simp [fdivOk, h0]; omega
theorem take_ok {i : Nat} {N : List Str} (hN : N.length = 6) (hi : fs[i]? = some (g_take N)) {K : Nat} (hK : K < 4611686018427387904) {h : List PV} (t : Tin K h) (r : Sto) {m : Int} (m0 : 0 < m) (m1 : m < 18446744073709551616) (n : Nat) :
    ∃ d h', callN gs fs (n + 1) i [.ml 0, .int m] (h :: r) = .ok (.int d) (h' :: r) ∧ 0 ≤ d ∧ d < m ∧ Tin (K + 1) h' := by
  obtain ⟨a, b, c, rfl, b0, b1, c0, c1⟩ := t
  rw [call_eq hi rfl]
  have e : (g_take N).N.length - [PV.ml 0, PV.int m].length = 4 := by simp [g_take, hN]
  rw [e]
  by_cases ha : 0 < a
  · refine ⟨a % m, [.int (a / m), .int b, .int c], ?_, Int.emod_nonneg _ (by omega), Int.emod_lt_of_pos _ m0, ⟨_, _, _, rfl, b0, b1, c0, by omega⟩⟩
    simp [g_take, evE_var, items, at0, cmpop, truth, ha, prim, binop, m0, fdivOk_small m0 m1, ixN]
  · have o1 := mulOk_l (i := 48271) (j := c + 1) (by decide)
    have o2 : ∀ x, mulOk x (39373 + (c + 1)) = true := fun x => mulOk_r (by omega)
    have o3 := fdivOk_small (j := 1000003) (by decide) (by decide)
    have o4 : ∀ x y : Int, mulOk x (y % 40009 + 7) = true := fun x y => mulOk_r (by omega)
    have o5 : ∀ x, mulOk x 48271 = true := fun x => mulOk_r (by decide)
    have o6 := fdivOk_small (j := 64) (by decide) (by decide)
    have q : ∃ x : Int, finish (g_take N).keep ([PV.int a, PV.int b, PV.int c] :: r).length (evSs (callN gs fs n) gs (arOf fs) (g_take N).body (List.map some [PV.ml 0, PV.int m] ++ List.replicate 4 none) ([PV.int a, PV.int b, PV.int c] :: r)) =
        R.ok (PV.int (x % m)) ([.int a, .int b, .int (c + 1)] :: r) := by
      apply Exists.intro
      simp [g_take, evE_var, items, at0, at1, at2, cmpop, truth, ha, prim, binop, m0, ixN, o1, o2, o3, o4, o5, o6]
      rfl
    obtain ⟨x, hx⟩ := q
    exact ⟨x % m, _, hx, Int.emod_nonneg _ (by omega), Int.emod_lt_of_pos _ m0, ⟨_, _, _, rfl, b0, b1, by omega, by omega⟩⟩
theorem atI_ints {l : List Int} {k : Int} (h0 : 0 ≤ k) (h1 : k < l.length) : ∃ x, atI (l.map .int) k = some (.int x) := by
  have h2 : k.toNat < l.length := by omega
  refine ⟨l[k.toNat], ?_⟩
  simp [atI, ixN, h0, h1, h2]
def g_box (C : Int) : Fn := ⟨"_law_box", 2, ["_law_script", "_law_k", "_law_bit_so"], (.cons
  (.set (.name 2) (.ite (.cmp .lt (.var 1) (.prim .len false (.cons (.var 0) .nil))) (.idx (.var 0) (.var 1)) (.int 0)))
  (.cons
  (.ret (.lst true (.cons (.bin .mul false (.prim .abs false (.cons (.var 2) .nil)) (.prim .int false (.cons (.cmp .ge (.prim .abs false (.cons (.var 2) .nil)) (.bin .pow false (.int 10) (.int 18))) .nil))) (.cons (.bin .add false (.bin .add false (.bin .mod false (.prim .int false (.cons (.var 2) .nil)) (.int 2305843009213693951)) (.bin .mul false (.int 39373) (.var 1))) (.int C)) (.cons (.int 0) .nil)))))
  .nil)), true⟩
theorem box_ok {i : Nat} {C : Int} (hi : fs[i]? = some (g_box C)) (C0 : 0 ≤ C) (C1 : C ≤ 1000000000) (l : List Int) {k : Int} (k0 : 0 ≤ k) (k1 : k ≤ 1000) (n : Nat) (st : Sto) :
    ∃ h, callN gs fs (n + 1) i [.pl (l.map .int), .int k] st = .ok (.ml st.length) (st ++ [h]) ∧ Tin 0 h := by
  have o1 : powOk 10 18 = true := by decide
  have o2 : ∀ (x : Int) (b : Bool), mulOk x (if b then 1 else 0) = true := fun x b => mulOk_r (by cases b <;> decide)
  have o3 := mulOk_l (i := 39373) (j := k) (by decide)
  have fin : ∀ (x : Int), ∃ h, finish true st.length (evSs (callN gs fs n) gs (arOf fs) (.cons
      (.ret (.lst true (.cons (.bin .mul false (.prim .abs false (.cons (.var 2) .nil)) (.prim .int false (.cons (.cmp .ge (.prim .abs false (.cons (.var 2) .nil)) (.bin .pow false (.int 10) (.int 18))) .nil))) (.cons (.bin .add false (.bin .add false (.bin .mod false (.prim .int false (.cons (.var 2) .nil)) (.int 2305843009213693951)) (.bin .mul false (.int 39373) (.var 1))) (.int C)) (.cons (.int 0) .nil)))))
      .nil) [some (.pl (l.map .int)), some (.int k), some (.int x)] st) = .ok (.ml st.length) (st ++ [h]) ∧ Tin 0 h := fun x => by
    refine ⟨[.int ((if x < 0 then -x else x) * (if decide ((10 : Int) ^ Int.toNat 18 ≤ (if x < 0 then -x else x)) then 1 else 0)), .int (x % 2305843009213693951 + 39373 * k + C), .int 0], ?_, ⟨_, _, _, rfl, by omega, by omega, by omega, by omega⟩⟩
    have o4 := o2 (if x < 0 then -x else x) (decide ((10 : Int) ^ Int.toNat 18 ≤ (if x < 0 then -x else x)))
    simp only [ss_cons, s_ret, ev_lst, args_bin_, ev_bin, args_prim_, ev_prim, args_var_, evE_var, args_cmp_, ev_cmp, args_int_, ev_int, args_nil, bind_ok, List.getElem?_cons_succ, List.getElem?_cons_zero, prim, binop, o1, cmpop, toR_some, if_true]
    rw [if_pos o4]
    simp [binop, o3, mkL, lineOk, finish, leave]
  rw [call_eq hi rfl]
  by_cases h : k < l.length
  · obtain ⟨x, hx⟩ := atI_ints k0 h
    obtain ⟨hh, e, t⟩ := fin x
    refine ⟨hh, ?_, t⟩
    rw [← e]
    simp only [g_box, ss_cons]
    simp [evE_var, prim, items, cmpop, h, truth, hx]
  · obtain ⟨hh, e, t⟩ := fin 0
    refine ⟨hh, ?_, t⟩
    rw [← e]
    simp only [g_box, ss_cons]
    simp [evE_var, prim, items, cmpop, h, truth]
def cellsB : Ss := (.cons
   (.set (.name 5) (.bin .mod false (.prim .int false (.cons (.var 3) .nil)) (.var 1)))
   (.cons
   (.set (.sub (.var 2) (.var 5)) (.bin .add false (.idx (.var 2) (.var 5)) (.bin .mul false (.var 4) (.bin .add false (.var 3) (.int 2)))))
   .nil))
def g_cells : Fn := ⟨"_law_cells", 2, ["_law_script", "_law_most_so", "_law_cells_so", "_law_k", "_law_bit_so", "_law_at_so"], (.cons
  (.set (.name 2) (.or_ (.cons (.prim .list true (.cons (.slc false (.var 0) .nil (.cons (.var 1) .nil)) .nil)) (.cons (.lst true (.cons (.int 0) .nil)) .nil))))
  (.cons
  (.for_ (.tup (.cons (.name 3) (.cons (.name 4) .nil))) (.enum (.slc false (.var 0) (.cons (.var 1) .nil) (.cons (.int 63) .nil))) cellsB)
  (.cons
  (.ret (.var 2))
  .nil))), false⟩
/-- the cells' loop -/
theorem cells_loop {cl : Cl} {ar : Nat → Nat} {v : PV} {M : Int} (M0 : 0 < M) {j : Nat} (c : List Int) (k : Int) (k0 : 0 ≤ k) (k1 : k + c.length ≤ 1000) (l : List Int) (hl : M ≤ l.length ∨ c = []) (st : Sto) (hj : st[j]? = some (l.map .int)) (o3 o4 o5 : Option PV) :
    ∃ (e' : Env) (l' : List Int), forL cl gs ar [] (.tup (.cons (.name 3) (.cons (.name 4) .nil))) cellsB (enumT k (c.map .int)) [some v, some (.int M), some (.ml j), o3, o4, o5] st = .next e' (st.set j (l'.map .int)) ∧ e'[2]? = some (some (.ml j)) ∧ l'.length = l.length := by
  induction c generalizing k l st o3 o4 o5 with
  | nil => exact ⟨_, l, by
      have : st.set j (l.map .int) = st := by
        apply List.ext_getElem?
        intro i
        rw [List.getElem?_set]
        split
        · rename_i h; subst h
          obtain ⟨hlt, he⟩ := List.getElem?_eq_some_iff.mp hj
          rw [if_pos hlt, hj]
        · rfl
      rw [this]; rfl, rfl, rfl⟩
  | cons x c ih =>
    have hM : M ≤ l.length := by rcases hl with h | h; exact h; cases h
    have p0 : 0 ≤ k % M := Int.emod_nonneg _ (by omega)
    have p1 : k % M < M := Int.emod_lt_of_pos _ M0
    obtain ⟨y, hy⟩ := atI_ints (l := l) p0 (by omega)
    have o1 : mulOk x (k + 2) = true := mulOk_r (by simp at k1; omega)
    have ix : ixN (l.map PV.int).length (k % M) = some (k % M).toNat := by
      simp only [ixN, List.length_map]
      rw [if_pos p0, if_pos (by omega)]
    obtain ⟨hlt, _⟩ := List.getElem?_eq_some_iff.mp hj
    have e1 : (l.map PV.int).set (k % M).toNat (.int (y + x * (k + 2))) = (l.set (k % M).toNat (y + x * (k + 2))).map .int := by rw [List.map_set]
    obtain ⟨e', l', h1, h2, h3⟩ := ih (k + 1) (by omega) (by simp at k1 ⊢; omega) (l.set (k % M).toNat (y + x * (k + 2))) (by left; simp; omega) (st.set j ((l.set (k % M).toNat (y + x * (k + 2))).map .int)) (by simp [hlt]) (some (.int k)) (some (.int x)) (some (.int (k % M)))
    refine ⟨e', l', ?_, h2, by simpa using h3⟩
    have g1 : asg cl gs ar (.tup (.cons (.name 3) (.cons (.name 4) .nil))) (.tup [.int k, .int x]) [some v, some (.int M), some (.ml j), o3, o4, o5] st = .ok [some v, some (.int M), some (.ml j), some (.int k), some (.int x), o5] st := by
      simp [items, Tgs.len]
    have g2 : evSs cl gs ar cellsB [some v, some (.int M), some (.ml j), some (.int k), some (.int x), o5] st =
        .next [some v, some (.int M), some (.ml j), some (.int k), some (.int x), some (.int (k % M))] (st.set j ((l.set (k % M).toNat (y + x * (k + 2))).map .int)) := by
      simp [cellsB, evE_var, p_int, b_mod false M0, items, hj, hy, b_add, b_mul false o1]
      simp at ix e1
      simp [ix, e1]
    rw [List.set_set] at h1
    rw [List.map_cons, enumT, forL_cons g1 g2]
    exact h1
theorem lineOk_le {α : Type} {xs : List α} (h : xs.length ≤ 1000) : lineOk xs = true := by simp [lineOk]; omega
theorem below_ints (n : Nat) (l : List Int) : belows n (l.map .int) = true := by
  induction l with
  | nil => rfl
  | cons x l ih => simp [belows, below, ih]
theorem froze_ints (n d : Nat) (st : Sto) (l : List Int) : mapO (froze n st d) (l.map .int) = some (l.map .int) := by
  induction l with
  | nil => rfl
  | cons x l ih =>
    have : froze n st d (.int x) = some (.int x) := by cases d <;> rfl
    simp [mapO, this, ih]
theorem slice_ints (l : List Int) (a b : Nat) : ∃ c : List Int, cut (l.map PV.int).length a b (l.map .int) = c.map .int ∧ c.length = min (b - a) (l.length - a) := ⟨(l.drop a).take (b - a), by simp [cut], by simp⟩
theorem belows_all (st : Sto) : belowAll 0 0 st = true := by cases st <;> rfl
theorem cells_ok {i : Nat} (hi : fs[i]? = some g_cells) (ns : List Int) (hn : ns.length ≤ 63) {M : Int} (M0 : 0 < M) (M1 : M ≤ 62) (n : Nat) :
    ∃ l : List Int, callN gs fs (n + 1) i [.scr (ns.map .int), .int M] [] = .ok (.pl (l.map .int)) [] := by
  rw [call_eq hi rfl]
  have neg : ¬ M < 0 := by omega
  obtain ⟨a, ha, la⟩ := slice_ints ns 0 (min M.toNat ns.length)
  obtain ⟨c, hc, lc⟩ := slice_ints ns (min M.toNat ns.length) (min 63 ns.length)
  simp only [List.length_map] at ha hc
  have oa : lineOk (a.map PV.int) = true := lineOk_le (by simp; omega)
  have oc : lineOk (c.map PV.int) = true := lineOk_le (by simp; omega)
  -- what stands in the list
  have body : ∀ (j : Nat) (l : List Int) (st : Sto), st[j]? = some (l.map .int) → (M ≤ l.length ∨ c = []) →
      ∃ l' : List Int, finish false 0 (evSs (callN gs fs n) gs (arOf fs) (.cons
  (.for_ (.tup (.cons (.name 3) (.cons (.name 4) .nil))) (.enum (.slc false (.var 0) (.cons (.var 1) .nil) (.cons (.int 63) .nil))) cellsB)
  (.cons
  (.ret (.var 2))
  .nil)) [some (.scr (ns.map .int)), some (.int M), some (.ml j), none, none, none] st) = .ok (.pl (l'.map .int)) [] := fun j l st hj hl => by
    obtain ⟨e', l', h1, h2, h3⟩ := cells_loop (gs := gs) (cl := callN gs fs n) (ar := arOf fs) (v := .scr (ns.map .int)) M0 (j := j) c 0 (by omega) (by omega) l hl st hj none none none
    refine ⟨l', ?_⟩
    have ev : evIt (callN gs fs n) gs (arOf fs) (.enum (.slc false (.var 0) (.cons (.var 1) .nil) (.cons (.int 63) .nil))) [some (.scr (ns.map .int)), some (.int M), some (.ml j), none, none, none] st = .ok (enumT 0 (c.map .int), []) st := by
      simp only [evIt]
      simp [evE_var, items, HT.sIx, neg, hc, mkL, oc, srcOf]
    simp only [ss_cons, s_for, ev, stmt_ok, h1, then_next, s_ret, evE_var, h2, then_ret]
    obtain ⟨hlt, _⟩ := List.getElem?_eq_some_iff.mp hj
    have s2 : (st.set j (l'.map PV.int))[j]? = some (l'.map .int) := by simp [hlt]
    have nz : ¬ st = [] := by intro e; subst e; simp at hlt
    simp [finish, leave, belows_all, froze, s2, froze_ints, nz]
  cases hz : a with
  | nil =>
    have cn : c = [] := by
      apply List.eq_nil_of_length_eq_zero
      rw [hz] at la; simp at la; omega
    obtain ⟨l', e⟩ := body 1 [0] [[], [.int 0]] rfl (.inr cn)
    refine ⟨l', ?_⟩
    rw [← e]
    rw [hz] at ha
    simp only [g_cells, ss_cons]
    simp [evE_var, items, HT.sIx, neg, ha, mkL, lineOk, prim, truth]
  | cons x a' =>
    have hl : M ≤ a.length ∨ c = [] := by
      by_cases h : M ≤ a.length
      · exact .inl h
      · refine .inr (List.eq_nil_of_length_eq_zero ?_)
        omega
    obtain ⟨l', e⟩ := body 0 a [a.map .int] rfl hl
    refine ⟨l', ?_⟩
    rw [← e]
    simp only [g_cells, ss_cons]
    simp [evE_var, items, HT.sIx, neg, ha, mkL, oa, prim, truth]
    simp [hz]
end
end Ev.L

/-! EvL3: the laws' own defs: lowest terms. -/
namespace Ev.L
open PySem
section
variable {gs : Gv} {fs : List Fn} {cl : Cl} {ar : Nat → Nat}
theorem whl_step {c : E} {b : Ss} {n : Nat} {e e2 : Env} {st st' : Sto} (h1 : ((evE cl gs ar c e st).bind fun x st => toR (truth st x) st) = .ok true st) (h2 : evSs cl gs ar b e st = .next e2 st') :
    whlL cl gs ar c b (n + 1) e st = whlL cl gs ar c b n e2 st' := by
  unfold whlL
  rw [wLoop, h1]
  simp only [h2]
theorem whl_stop {c : E} {b : Ss} {n : Nat} {e : Env} {st : Sto} (h1 : ((evE cl gs ar c e st).bind fun x st => toR (truth st x) st) = .ok false st) : whlL cl gs ar c b (n + 1) e st = .next e st := by
  unfold whlL
  rw [wLoop, h1]
/-- the greatest common divisor by remainders; one, two stand at i, i + 1 -/
def euclB (i : Nat) : Ss := .cons (.set (.tup (.cons (.name i) (.cons (.name (i + 1)) .nil))) (.tup (.cons (.bin .mod false (.prim .int false (.cons (.var (i + 1)) .nil)) (.var i)) (.cons (.var i) .nil)))) .nil
theorem eucl_loop (p0 p1 p2 : Option PV) (st : Sto) : ∀ (x y n : Nat), x < n → whlL cl gs ar (.cmp .gt (.var 3) (.int 0)) (euclB 3) n [p0, p1, p2, some (.int x), some (.int y)] st = .next [p0, p1, p2, some (.int 0), some (.int (Nat.gcd x y : Nat))] st := by
  intro x
  induction x using Nat.strongRecOn with
  | _ x ih =>
    intro y n hn
    obtain ⟨n, rfl⟩ : ∃ m, n = m + 1 := ⟨n - 1, by omega⟩
    by_cases h : x = 0
    · subst h
      rw [whl_stop (by simp [evE_var, c_gt, t_bl])]
      simp
    · have hx : (0 : Int) < (x : Int) := by omega
      have hl : y % x < x := Nat.mod_lt _ (by omega)
      have e : ((y : Int) % (x : Int)) = ((y % x : Nat) : Int) := by omega
      rw [whl_step (e2 := [p0, p1, p2, some (.int ((y % x : Nat) : Int)), some (.int x)]) (st' := st)]
      · rw [ih (y % x) hl x n (by omega)]
        have : Nat.gcd (y % x) x = Nat.gcd x y := by rw [Nat.gcd_rec x y]
        rw [this]
      · simp [evE_var, c_gt, t_bl]; omega
      · simp [euclB, evE_var, p_int, b_mod false hx, mkT, lineOk, items, Tgs.len]
def sgnI (l : Int) : Int := if 0 < l then 1 else -1
def gcdI (u l : Int) : Int := (Nat.gcd u.natAbs l.natAbs : Nat)
def quotN (u l : Int) : Int := sgnI l * u / gcdI u l
def quotD (u l : Int) : Int := sgnI l * l / gcdI u l
def g_quot : Fn := ⟨"_law_quot", 2, ["_law_up_so", "_law_low_so", "_law_sign_so", "_law_one_so", "_law_two_so"], (.cons
  (.set (.tup (.cons (.name 3) (.cons (.name 4) .nil))) (.tup (.cons (.prim .abs false (.cons (.var 0) .nil)) (.cons (.prim .abs false (.cons (.var 1) .nil)) .nil))))
  (.cons
  (.whl (.cmp .gt (.var 3) (.int 0)) (euclB 3))
  (.cons
  (.set (.name 2) (.ite (.cmp .gt (.var 1) (.int 0)) (.int 1) (.neg (.int 1))))
  (.cons
  (.ret (.tup (.cons (.bin .fdiv false (.bin .mul false (.var 2) (.var 0)) (.var 4)) (.cons (.bin .fdiv false (.bin .mul false (.var 2) (.var 1)) (.var 4)) .nil))))
  .nil)))), false⟩
theorem abs_nat (x : Int) : (if x < 0 then -x else x) = (x.natAbs : Nat) := by split <;> omega
theorem quot_ok {i : Nat} (hi : fs[i]? = some g_quot) {u l : Int} (hu : u.natAbs < 18446744073709551616) (hl : l.natAbs < 18446744073709551616) (l0 : l ≠ 0) (n : Nat) (st : Sto) :
    callN gs fs (n + 1) i [.int u, .int l] st = .ok (.tup [.int (quotN u l), .int (quotD u l)]) st := by
  rw [call_eq hi rfl]
  have e := eucl_loop (cl := callN gs fs n) (gs := gs) (ar := arOf fs) (some (.int u)) (some (.int l)) none st u.natAbs l.natAbs wFuel (by unfold wFuel; omega)
  have gp : 0 < Nat.gcd u.natAbs l.natAbs := Nat.gcd_pos_of_pos_right _ (by omega)
  have gl : Nat.gcd u.natAbs l.natAbs ≤ l.natAbs := Nat.le_of_dvd (by omega) (Nat.gcd_dvd_right _ _)
  have o1 : fdivOk (Nat.gcd u.natAbs l.natAbs : Nat) = true := fdivOk_small (by omega) (by omega)
  have o2 : ∀ (x y : Int), y.natAbs = 1 → mulOk y x = true := fun x y h => mulOk_l (by omega)
  have fl : ∀ x : Int, fdivOk (Nat.gcd u.natAbs l.natAbs : Nat) = true := fun _ => o1
  simp [g_quot, evE_var, p_abs, mkT, lineOk, items, Tgs.len, abs_nat, e, c_gt, t_bl]
  by_cases h : 0 < l
  · simp [h, evE_var, b_mul false (o2 u 1 rfl), b_mul false (o2 l 1 rfl), b_fdiv false o1, quotN, quotD, sgnI, gcdI]
  · simp [h, evE_var, b_mul false (o2 u (-1) rfl), b_mul false (o2 l (-1) rfl), b_fdiv false o1, quotN, quotD, sgnI, gcdI]
theorem mem_zip {xs : List PV} {z : PV} : z ∈ zipT xs xs → ∃ x ∈ xs, z = .tup [x, x] := by
  induction xs with
  | nil => intro h; cases h
  | cons x xs ih =>
    intro h
    rw [zipT, List.mem_cons] at h
    rcases h with h | h
    · exact ⟨x, by simp, h⟩
    · obtain ⟨y, hy, e⟩ := ih h
      exact ⟨y, by simp [hy], e⟩
theorem zip_len (xs : List PV) : (zipT xs xs).length = xs.length := by
  induction xs with
  | nil => rfl
  | cons x xs ih => simp [zipT, ih]
theorem bools_true (l : List PV) : boolsV (l.map fun _ => .bl true) = some (l.map fun _ => true) := by
  induction l with
  | nil => rfl
  | cons x l ih =>
    rw [List.map_cons, boolsV, ih] <;> rfl
theorem c_neB (st : Sto) (a b : Bool) : cmpop st .ne (.bl a) (.bl b) = some (!(a == b)) := rfl
theorem c_eqB (st : Sto) (a b : Bool) : cmpop st .eq (.bl a) (.bl b) = some (a == b) := rfl
theorem c_eqN (st : Sto) : cmpop st .eq .non .non = some true := rfl
theorem c_eqS (st : Sto) {x : List Nat} (h : (x.all fun c => decide (c < 1114112)) = true) : cmpop st .eq (.str x) (.str x) = some true := by
  show (if (plain 60 (.str x) && plain 60 (.str x)) = true then some (x == x) else none) = _
  have e : plain 60 (.str x) = true := h
  rw [e]; simp
theorem p_all (m : Bool) (st : Sto) (l : List PV) : prim m st .all [.pl (l.map fun _ => .bl true)] = .ok (.bl true) st := by
  show (match (litems st (.pl (l.map fun _ => .bl true))).bind boolsV with | some bs => _ | none => _) = _
  show (match boolsV (l.map fun _ => .bl true) with | some bs => _ | none => _) = _
  rw [bools_true]
  show R.ok (PV.bl ((l.map fun _ => true).all id)) st = _
  have : ((l.map fun _ => true).all id) = true := by simp
  rw [this]
def g_same (i : Nat) : Fn := ⟨"_law_same", 2, ["_law_got", "_law_due", "_law_mine", "_law_its"], (.cons
  (.iff (.isi (.var 1) [.list, .tuple]) (.cons
   (.iff (.or_ (.cons (.cmp .ne (.isi (.var 0) [.list]) (.isi (.var 1) [.list])) (.cons (.cmp .ne (.isi (.var 0) [.tuple]) (.isi (.var 1) [.tuple])) .nil))) (.cons
    (.ret (.bl false))
    .nil) .nil)
   (.cons
   (.ret (.and_ (.cons (.cmp .eq (.prim .len false (.cons (.var 0) .nil)) (.prim .len false (.cons (.var 1) .nil))) (.cons (.prim .all false (.cons (.comp false [("_law_mine", 2), ("_law_its", 3)] (.tup (.cons (.name 2) (.cons (.name 3) .nil))) (.zip (.var 0) (.var 1)) .nil (.call i (.cons (.var 2) (.cons (.var 3) .nil)))) .nil)) .nil))))
   .nil)) .nil)
  (.cons
  (.iff (.or_ (.cons (.isn false (.var 1)) (.cons (.isi (.var 1) [.bool, .str]) .nil))) (.cons
   (.ret (.and_ (.cons (.cmp .eq (.var 0) (.var 1)) (.cons (.cmp .eq (.isi (.var 0) [.bool]) (.isi (.var 1) [.bool])) (.cons (.cmp .eq (.isn false (.var 0)) (.isn false (.var 1))) .nil)))))
   .nil) .nil)
  (.cons
  (.ret (.and_ (.cons (.isi (.var 0) [.int]) (.cons (.not_ (.isi (.var 0) [.bool])) (.cons (.cmp .eq (.var 0) (.var 1)) .nil)))))
  .nil))), false⟩
/-- the same value, held against itself -/
theorem same_ok {i : Nat} (hi : fs[i]? = some (g_same i)) : ∀ (d : Nat) (v : PV), tree d v = true → ∀ (n : Nat) (st : Sto), d < n → callN gs fs n i [v, v] st = .ok (.bl true) st := by
  intro d
  induction d with
  | zero =>
    intro v h n st hn
    obtain ⟨m, rfl⟩ : ∃ m, n = m + 1 := ⟨n - 1, by omega⟩
    rw [call_eq hi rfl]
    cases v with
    | str x => simp [g_same, evE_var, tyIs, t_bl, c_neB, c_eqB, c_eq, c_eqN, c_eqS st h]
    | _ => first | (cases h; done) | simp [g_same, evE_var, tyIs, t_bl, c_neB, c_eqB, c_eq, c_eqN]
  | succ d ih =>
    intro v h n st hn
    obtain ⟨m, rfl⟩ : ∃ m, n = m + 1 := ⟨n - 1, by omega⟩
    rw [call_eq hi rfl]
    have turn : ∀ (xs : List PV) (p0 p1 : Option PV), xs.all (tree d) = true → compL (callN gs fs m) gs (arOf fs) [] (.tup (.cons (.name 2) (.cons (.name 3) .nil))) .nil (.call i (.cons (.var 2) (.cons (.var 3) .nil))) [p0, p1, none, none] (zipT xs xs) st =
        .ok ((zipT xs xs).map fun _ => .bl true) st := fun xs p0 p1 hx => compL_pure (fun _ => .bl true) (zipT xs xs) fun z hz => by
      obtain ⟨x, mx, rfl⟩ := mem_zip hz
      have q := ih x (List.all_eq_true.mp hx x mx) m st (by omega)
      simp [compT, items, Tgs.len, evE_var, q]
    cases v with
    | tup xs =>
      obtain ⟨h1, h2⟩ := Bool.and_eq_true_iff.mp h
      have h3 : lineOk ((zipT xs xs).map fun _ => PV.bl true) = true := by simpa [lineOk, zip_len] using h1
      simp [g_same, evE_var, tyIs, t_bl, c_neB, c_eqB, c_eq, p_lenT, wipe, turn xs _ _ h2, mkL, h3, p_all]
    | pl xs =>
      obtain ⟨h1, h2⟩ := Bool.and_eq_true_iff.mp h
      have h3 : lineOk ((zipT xs xs).map fun _ => PV.bl true) = true := by simpa [lineOk, zip_len] using h1
      simp [g_same, evE_var, tyIs, t_bl, c_neB, c_eqB, c_eq, p_lenL, wipe, srcOf, turn xs _ _ h2, mkL, h3, p_all]
    | _ =>
      first
      | (cases h; done)
      | (simp [g_same, evE_var, tyIs, t_bl, c_neB, c_eqB, c_eq, c_eqN]; done)
      | simp [g_same, evE_var, tyIs, t_bl, c_neB, c_eqB, c_eq, c_eqN, c_eqS st h]
end
end Ev.L

/-! EvL4: fractions. -/
namespace Ev.L
open PySem
section
variable {gs : Gv} {fs : List Fn}
/-- in lowest terms -/
def Low (a b : Int) : Prop := 0 < b ∧ Nat.gcd a.natAbs b.natAbs = 1
theorem gcdl_two (a b : Int) : gcdl 0 [a, b] = gcdI a b := by simp [gcdl, gcdI]
def g_is_fraction (il nu fr dv : Nat) : Fn := ⟨"is_fraction", 1, ["thing"], (.cons
  (.iff (.or_ (.cons (.not_ (.call il (.cons (.var 0) (.cons (.int 2) .nil)))) (.cons (.not_ (.call nu (.cons (.idx (.var 0) (.int 0)) .nil))) (.cons (.not_ (.call fr (.cons (.idx (.var 0) (.int 1)) (.cons (.int 1) .nil)))) .nil)))) (.cons
   (.ret (.bl false))
   .nil) .nil)
  (.cons
  (.ret (.cmp .eq (.call dv (.cons (.var 0) .nil)) (.int 1)))
  .nil)), false⟩
theorem is_fraction_ok {i il nu fr dv : Nat} (hi : fs[i]? = some (g_is_fraction il nu fr dv)) (h1 : fs[il]? = some g_is_long) (h2 : fs[nu]? = some g_is_number) (h3 : fs[fr]? = some (g_is_from nu)) (h4 : fs[dv]? = some g_divisor)
    (a b : Int) (n : Nat) (st : Sto) : callN gs fs (n + 3) i [.tup [.int a, .int b]] st = .ok (.bl (decide (1 ≤ b) && decide (gcdI a b = 1))) st := by
  rw [call_eq hi rfl]
  have d := (divisor_ok (gs := gs) h4 [a, b] (n + 1) st).1
  rw [gcdl_two] at d
  have d : callN gs fs (n + 2) dv [.tup [.int a, .int b]] st = _ := d
  have q1 : callN gs fs (n + 2) il [.tup [.int a, .int b], .int 2] st = _ := is_long_ok h1 (.tup [.int a, .int b]) 2 rfl (n + 1) st
  have q2 : callN gs fs (n + 2) nu [.int a] st = _ := is_number_ok h2 (.int a) rfl (n + 1) st
  have q3 : callN gs fs (n + 2) fr [.int b, .int 1] st = _ := is_from_ok h3 h2 (.int b) 1 rfl n st
  by_cases hb : 1 ≤ b <;> simp [g_is_fraction, evE_var, q1, q2, q3, d, items, at0, at1, isLong, isI, isFrom, t_bl, c_eq, hb]
  rfl
def g_sure_fraction (tu fr x : Nat) : Fn := ⟨"sure_fraction", 1, ["one", "own"], (.cons
  (.set (.name 1) (.call tu (.cons (.var 0) .nil)))
  (.cons
  (.iff (.not_ (.call fr (.cons (.var 1) .nil))) (.cons
   (.raise x)
   .nil) .nil)
  (.cons
  (.ret (.var 1))
  .nil))), false⟩
theorem tupled_two {i : Nat} (hi : fs[i]? = some (g_tupled i)) (a b : Int) (n : Nat) (st : Sto) : callN gs fs (n + 2) i [.tup [.int a, .int b]] st = .ok (.tup [.int a, .int b]) st ∧ callN gs fs (n + 2) i [.pl [.int a, .int b]] st = .ok (.tup [.int a, .int b]) st :=
  ⟨tupled_ok hi 1 (.tup [.int a, .int b]) rfl (n + 2) st (by omega), tupled_ok hi 1 (.pl [.int a, .int b]) rfl (n + 2) st (by omega)⟩
theorem sure_fraction_ok {i il nu fr dv tu f x : Nat} (hi : fs[i]? = some (g_sure_fraction tu f x)) (h0 : fs[f]? = some (g_is_fraction il nu fr dv)) (ht : fs[tu]? = some (g_tupled tu)) (h1 : fs[il]? = some g_is_long) (h2 : fs[nu]? = some g_is_number) (h3 : fs[fr]? = some (g_is_from nu)) (h4 : fs[dv]? = some g_divisor)
    {a b : Int} (L : Low a b) (n : Nat) (st : Sto) : callN gs fs (n + 4) i [.tup [.int a, .int b]] st = .ok (.tup [.int a, .int b]) st ∧ callN gs fs (n + 4) i [.pl [.int a, .int b]] st = .ok (.tup [.int a, .int b]) st := by
  have q := is_fraction_ok (gs := gs) h0 h1 h2 h3 h4 a b n st
  have e1 : 1 ≤ b := L.1
  have e2 : gcdI a b = 1 := by unfold gcdI; rw [L.2] <;> rfl
  rw [decide_eq_true e1, decide_eq_true e2] at q
  have q : callN gs fs (n + 3) f [.tup [.int a, .int b]] st = .ok (.bl true) st := q
  have t1 := (tupled_two (gs := gs) ht a b (n + 1) st).1
  have t2 := (tupled_two (gs := gs) ht a b (n + 1) st).2
  have t1 : callN gs fs (n + 3) tu [.tup [.int a, .int b]] st = _ := t1
  have t2 : callN gs fs (n + 3) tu [.pl [.int a, .int b]] st = _ := t2
  refine ⟨?_, ?_⟩
  · rw [call_eq hi rfl]
    simp [g_sure_fraction, evE_var, t1, q, t_bl]
  · rw [call_eq hi rfl]
    simp [g_sure_fraction, evE_var, t2, q, t_bl]
def g_made (dv : Nat) : Fn := ⟨"made", 2, ["above", "below", "by"], (.cons
  (.set (.name 2) (.call dv (.cons (.tup (.cons (.var 0) (.cons (.var 1) .nil))) .nil)))
  (.cons
  (.ret (.ite (.cmp .gt (.var 1) (.int 0)) (.tup (.cons (.bin .fdiv false (.var 0) (.var 2)) (.cons (.bin .fdiv false (.var 1) (.var 2)) .nil))) (.tup (.cons (.bin .fdiv false (.neg (.var 0)) (.var 2)) (.cons (.bin .fdiv false (.neg (.var 1)) (.var 2)) .nil)))))
  .nil)), false⟩
/-- made comes to what _law_quot comes to -/
theorem made_ok {i dv : Nat} (hi : fs[i]? = some (g_made dv)) (h4 : fs[dv]? = some g_divisor) {u l : Int} (hl : l.natAbs < 18446744073709551616) (l0 : l ≠ 0) (n : Nat) (st : Sto) :
    callN gs fs (n + 2) i [.int u, .int l] st = .ok (.tup [.int (quotN u l), .int (quotD u l)]) st := by
  rw [call_eq hi rfl]
  have d := (divisor_ok (gs := gs) h4 [u, l] n st).1
  rw [gcdl_two] at d
  have d : callN gs fs (n + 1) dv [.tup [.int u, .int l]] st = _ := d
  have gp : 0 < Nat.gcd u.natAbs l.natAbs := Nat.gcd_pos_of_pos_right _ (by omega)
  have gl : Nat.gcd u.natAbs l.natAbs ≤ l.natAbs := Nat.le_of_dvd (by omega) (Nat.gcd_dvd_right _ _)
  have o1 : fdivOk (gcdI u l) = true := fdivOk_small (by unfold gcdI; omega) (by unfold gcdI; omega)
  by_cases h : 0 < l <;> simp [g_made, evE_var, mkT, lineOk, d, c_gt, t_bl, h, b_fdiv false o1, quotN, quotD, sgnI]
end
end Ev.L

/-! EvL5: rows of ints parted by their divisor. -/
namespace Ev.L
open PySem
theorem gcdl_scale (k : Nat) : ∀ (l : List Int) (g : Int), 0 ≤ g → gcdl ((k : Int) * g) (l.map ((k : Int) * ·)) = (k : Int) * gcdl g l
  | [], g, _ => rfl
  | x :: r, g, hg => by
    rw [List.map_cons, gcdl, gcdl, ← gcdl_scale k r _ (by omega)]
    congr 1
    rw [Int.natAbs_mul, Int.natAbs_mul, Int.natAbs_natCast, Nat.gcd_mul_left]
    push_cast
    rfl
theorem gcdl_nonneg : ∀ (l : List Int) (g : Int), 0 ≤ g → 0 ≤ gcdl g l
  | [], g, h => h
  | x :: r, g, h => gcdl_nonneg r _ (by omega)
/-- parted by the divisor -/
def partedL (l : List Int) : List Int := l.map (· / gcdl 0 l)
theorem scale_eq {v w : List Int} {m n : Nat} (h : v.map ((n : Int) * ·) = w.map ((m : Int) * ·)) : (n : Int) * gcdl 0 v = (m : Int) * gcdl 0 w := by
  have a := gcdl_scale n v 0 (by omega)
  have b := gcdl_scale m w 0 (by omega)
  rw [Int.mul_zero] at a b
  rw [← a, ← b, h]
/-- positively proportional rows are parted alike -/
theorem parted_eq {v w : List Int} {m n : Nat} (hm : 0 < m) (hn : 0 < n) (h : v.map ((n : Int) * ·) = w.map ((m : Int) * ·)) : partedL v = partedL w := by
  have e := scale_eq h
  have lv : partedL v = (v.map ((n : Int) * ·)).map (· / ((n : Int) * gcdl 0 v)) := by
    unfold partedL
    rw [List.map_map]
    refine List.map_congr_left fun x _ => ?_
    show x / gcdl 0 v = (n : Int) * x / ((n : Int) * gcdl 0 v)
    rw [Int.mul_ediv_mul_of_pos _ _ (by omega)]
  have lw : partedL w = (w.map ((m : Int) * ·)).map (· / ((m : Int) * gcdl 0 w)) := by
    unfold partedL
    rw [List.map_map]
    refine List.map_congr_left fun x _ => ?_
    show x / gcdl 0 w = (m : Int) * x / ((m : Int) * gcdl 0 w)
    rw [Int.mul_ediv_mul_of_pos _ _ (by omega)]
  rw [lv, lw, h, e]
theorem parted_one {v : List Int} (h : gcdl 0 v = 1) : partedL v = v := by
  unfold partedL
  rw [h]
  simp
section
variable {gs : Gv} {fs : List Fn}
def g_parted (dv : Nat) : Fn := ⟨"parted", 1, ["numbers", "by", "own"], (.cons
  (.set (.name 1) (.call dv (.cons (.var 0) .nil)))
  (.cons
  (.ret (.prim .tuple false (.cons (.comp false [("own", 2)] (.name 2) (.e (.var 0)) .nil (.bin .fdiv false (.var 2) (.var 1))) .nil)))
  .nil)), false⟩
theorem parted_ok {i dv : Nat} (hi : fs[i]? = some (g_parted dv)) (h4 : fs[dv]? = some g_divisor) {l : List Int} (hl : l.length ≤ 1000) (g0 : 0 < gcdl 0 l) (g1 : gcdl 0 l < 18446744073709551616) (n : Nat) (st : Sto) :
    callN gs fs (n + 2) i [.tup (l.map .int)] st = .ok (.tup ((partedL l).map .int)) st := by
  rw [call_eq hi rfl]
  have d := (divisor_ok (gs := gs) h4 l n st).1
  have o1 := fdivOk_small g0 g1
  have c : ∀ p0, compL (callN gs fs (n + 1)) gs (arOf fs) [] (.name 2) .nil (.bin .fdiv false (.var 2) (.var 1)) [p0, some (.int (gcdl 0 l)), none] (l.map .int) st = .ok ((l.map PV.int).map fun x => match x with | .int x => .int (x / gcdl 0 l) | y => y) st := fun p0 =>
    compL_pure _ _ fun x hx => by
      obtain ⟨y, _, rfl⟩ := List.mem_map.mp hx
      simp [compT, evE_var, b_fdiv false o1]
  have e : ((l.map PV.int).map fun x => match x with | PV.int x => PV.int (x / gcdl 0 l) | y => y) = (partedL l).map PV.int := by
    simp [partedL]
  have o2 : lineOk ((partedL l).map PV.int) = true := lineOk_le (by simp [partedL]; exact hl)
  rw [e] at c
  simp [g_parted, evE_var, d, srcOf, wipe, c, mkL, o2, p_tupL, mkT]
end
end Ev.L

/-! EvL6: points. -/
namespace Ev.L
open PySem
section
variable {gs : Gv} {fs : List Fn}
def g_is_row (il nu : Nat) : Fn := ⟨"is_row", 2, ["thing", "length", "own"], (.cons
  (.ret (.and_ (.cons (.call il (.cons (.var 0) (.cons (.var 1) .nil))) (.cons (.prim .all false (.cons (.comp false [("own", 2)] (.name 2) (.e (.var 0)) .nil (.call nu (.cons (.var 2) .nil))) .nil)) .nil))))
  .nil), false⟩
theorem is_row_ok {i il nu : Nat} (hi : fs[i]? = some (g_is_row il nu)) (h1 : fs[il]? = some g_is_long) (h2 : fs[nu]? = some g_is_number) (l : List Int) (hl : l.length ≤ 1000) (k : Int) (n : Nat) (st : Sto) :
    callN gs fs (n + 2) i [.tup (l.map .int), .int k] st = .ok (.bl (decide ((l.length : Int) = k))) st := by
  rw [call_eq hi rfl]
  have q1 := is_long_ok (gs := gs) h1 (.tup (l.map .int)) k rfl n st
  have c : ∀ p0 p1, compL (callN gs fs (n + 1)) gs (arOf fs) [] (.name 2) .nil (.call nu (.cons (.var 2) .nil)) [p0, p1, none] (l.map .int) st = .ok ((l.map PV.int).map fun _ => .bl true) st := fun p0 p1 =>
    compL_pure _ _ fun x hx => by
      obtain ⟨y, _, rfl⟩ := List.mem_map.mp hx
      have q2 := is_number_ok (gs := gs) h2 (.int y) rfl n st
      simp [compT, evE_var, q2, isI]
  have o : lineOk ((l.map PV.int).map fun _ => PV.bl true) = true := lineOk_le (by simp; exact hl)
  have pa := p_all false st (l.map .int)
  by_cases h : (l.length : Int) = k
  · rw [List.map_map] at pa o
    simp only [List.map_map] at c
    subst h
    simp [g_is_row, evE_var, q1, isLong, t_bl, srcOf, wipe, c, mkL, o, pa]
  · simp [g_is_row, evE_var, q1, isLong, h, t_bl]
/-- a point's four numbers -/
def Pt (l : List Int) : Prop := ∃ a b c d : Int, l = [a, b, c, d] ∧ 0 < d ∧ gcdl 0 l = 1
def g_is_point (rw_ fr dv : Nat) : Fn := ⟨"is_point", 1, ["thing"], (.cons
  (.ret (.and_ (.cons (.call rw_ (.cons (.var 0) (.cons (.int 4) .nil))) (.cons (.call fr (.cons (.idx (.var 0) (.int 3)) (.cons (.int 1) .nil))) (.cons (.cmp .eq (.call dv (.cons (.var 0) .nil)) (.int 1)) .nil)))))
  .nil), false⟩
theorem is_point_ok {i rw_ il nu fr dv : Nat} (hi : fs[i]? = some (g_is_point rw_ fr dv)) (h0 : fs[rw_]? = some (g_is_row il nu)) (h1 : fs[il]? = some g_is_long) (h2 : fs[nu]? = some g_is_number) (h3 : fs[fr]? = some (g_is_from nu)) (h4 : fs[dv]? = some g_divisor)
    (a b c d : Int) (n : Nat) (st : Sto) : callN gs fs (n + 3) i [.tup [.int a, .int b, .int c, .int d]] st = .ok (.bl (decide (1 ≤ d) && decide (gcdl 0 [a, b, c, d] = 1))) st := by
  rw [call_eq hi rfl]
  have q1 : callN gs fs (n + 2) rw_ [.tup [.int a, .int b, .int c, .int d], .int 4] st = .ok (.bl true) st := is_row_ok (gs := gs) h0 h1 h2 [a, b, c, d] (by simp) 4 n st
  have q2 : callN gs fs (n + 2) fr [.int d, .int 1] st = .ok (.bl (decide (1 ≤ d))) st := is_from_ok h3 h2 (.int d) 1 rfl n st
  have q3 : callN gs fs (n + 2) dv [.tup [.int a, .int b, .int c, .int d]] st = .ok (.int (gcdl 0 [a, b, c, d])) st := (divisor_ok (gs := gs) h4 [a, b, c, d] (n + 1) st).1
  by_cases h : 1 ≤ d
  · simp [g_is_point, evE_var, q1, q2, q3, items, at3, t_bl, h, c_eq]
    rfl
  · simp [g_is_point, evE_var, q1, q2, q3, items, at3, t_bl, h, c_eq]
def g_sure_point (tu ip x : Nat) : Fn := ⟨"sure_point", 1, ["point", "own"], (.cons
  (.set (.name 1) (.call tu (.cons (.var 0) .nil)))
  (.cons
  (.iff (.not_ (.call ip (.cons (.var 1) .nil))) (.cons
   (.raise x)
   .nil) .nil)
  (.cons
  (.ret (.var 1))
  .nil))), false⟩
theorem tupled_row {i : Nat} (hi : fs[i]? = some (g_tupled i)) (l : List Int) (hl : l.length ≤ 1000) (n : Nat) (st : Sto) : callN gs fs (n + 2) i [.tup (l.map .int)] st = .ok (.tup (l.map .int)) st ∧ callN gs fs (n + 2) i [.pl (l.map .int)] st = .ok (.tup (l.map .int)) st := by
  have h : tree 1 (.tup (l.map .int)) = true := by
    show (lineOk (l.map PV.int) && (l.map PV.int).all (tree 0)) = true
    rw [lineOk_le (by simp; exact hl)]
    simp [tree]
  have e : (l.map PV.int).map (tupz 0) = l.map PV.int := by simp [tupz]
  have q1 : callN gs fs (n + 2) i [.tup (l.map .int)] st = .ok (.tup ((l.map PV.int).map (tupz 0))) st := tupled_ok (gs := gs) hi 1 (.tup (l.map .int)) h (n + 2) st (by omega)
  have q2 : callN gs fs (n + 2) i [.pl (l.map .int)] st = .ok (.tup ((l.map PV.int).map (tupz 0))) st := tupled_ok (gs := gs) hi 1 (.pl (l.map .int)) h (n + 2) st (by omega)
  rw [e] at q1 q2
  exact ⟨q1, q2⟩
theorem sure_point_ok {i rw_ il nu fr dv tu ip x : Nat} (hi : fs[i]? = some (g_sure_point tu ip x)) (hp : fs[ip]? = some (g_is_point rw_ fr dv)) (ht : fs[tu]? = some (g_tupled tu)) (h0 : fs[rw_]? = some (g_is_row il nu)) (h1 : fs[il]? = some g_is_long) (h2 : fs[nu]? = some g_is_number) (h3 : fs[fr]? = some (g_is_from nu)) (h4 : fs[dv]? = some g_divisor)
    {a b c d : Int} (d0 : 0 < d) (g : gcdl 0 [a, b, c, d] = 1) (n : Nat) (st : Sto) : callN gs fs (n + 4) i [.tup [.int a, .int b, .int c, .int d]] st = .ok (.tup [.int a, .int b, .int c, .int d]) st ∧
      callN gs fs (n + 4) i [.pl [.int a, .int b, .int c, .int d]] st = .ok (.tup [.int a, .int b, .int c, .int d]) st := by
  have q := is_point_ok (gs := gs) hp h0 h1 h2 h3 h4 a b c d n st
  have e1 : 1 ≤ d := d0
  rw [decide_eq_true e1, decide_eq_true g] at q
  have q : callN gs fs (n + 3) ip [.tup [.int a, .int b, .int c, .int d]] st = .ok (.bl true) st := q
  obtain ⟨t1, t2⟩ := tupled_row (gs := gs) ht [a, b, c, d] (by simp) (n + 1) st
  have t1 : callN gs fs (n + 3) tu [.tup [.int a, .int b, .int c, .int d]] st = .ok (.tup [.int a, .int b, .int c, .int d]) st := t1
  have t2 : callN gs fs (n + 3) tu [.pl [.int a, .int b, .int c, .int d]] st = .ok (.tup [.int a, .int b, .int c, .int d]) st := t2
  refine ⟨?_, ?_⟩
  · rw [call_eq hi rfl]
    simp [g_sure_point, evE_var, t1, q, t_bl]
  · rw [call_eq hi rfl]
    simp [g_sure_point, evE_var, t2, q, t_bl]
def g_spot (pa : Nat) : Fn := ⟨"spot", 2, ["numbers", "w"], (.cons
  (.ret (.call pa (.cons (.tup (.cons (.star (.var 0)) (.cons (.var 1) .nil))) .nil)))
  .nil), false⟩
theorem spot_ok {i pa dv : Nat} (hi : fs[i]? = some (g_spot pa)) (hp : fs[pa]? = some (g_parted dv)) (h4 : fs[dv]? = some g_divisor) (l : List Int) (w : Int) (hl : l.length ≤ 999) (g0 : 0 < gcdl 0 (l ++ [w])) (g1 : gcdl 0 (l ++ [w]) < 18446744073709551616) (n : Nat) (st : Sto) :
    callN gs fs (n + 3) i [.tup (l.map .int), .int w] st = .ok (.tup ((partedL (l ++ [w])).map .int)) st ∧ callN gs fs (n + 3) i [.pl (l.map .int), .int w] st = .ok (.tup ((partedL (l ++ [w])).map .int)) st := by
  have q := parted_ok (gs := gs) hp h4 (l := l ++ [w]) (by simp; omega) g0 g1 n st
  rw [List.map_append] at q
  have o : lineOk (l.map PV.int ++ [PV.int w]) = true := lineOk_le (by simp; omega)
  have q : callN gs fs (n + 2) pa [.tup (l.map PV.int ++ [PV.int w])] st = _ := q
  refine ⟨?_, ?_⟩
  · rw [call_eq hi rfl]
    simp [g_spot, evE_var, items, mkT, o, q]
  · rw [call_eq hi rfl]
    simp [g_spot, evE_var, items, mkT, o, q]
end
end Ev.L

/-! EvL7: a point by three fractions, and back. -/
namespace Ev.L
open PySem
theorem gcdl_dvd_start : ∀ (l : List Int) (g : Int), gcdl g l ∣ g
  | [], g => Int.dvd_refl g
  | x :: r, g => by
    refine Int.dvd_trans (gcdl_dvd_start r _) ?_
    exact Int.dvd_natAbs.mp (Int.natCast_dvd_natCast.mpr (Nat.gcd_dvd_left _ _))
theorem gcdl_dvd : ∀ (l : List Int) (g : Int) {x : Int}, x ∈ l → gcdl g l ∣ x
  | [], g, x, h => by cases h
  | y :: r, g, x, h => by
    rcases List.mem_cons.mp h with e | h
    · subst e
      refine Int.dvd_trans (gcdl_dvd_start r _) ?_
      exact Int.dvd_natAbs.mp (Int.natCast_dvd_natCast.mpr (Nat.gcd_dvd_right _ _))
    · exact gcdl_dvd r _ h
theorem gcdl_pos {l : List Int} {w : Int} (m : w ∈ l) (h : 0 < w) : 0 < gcdl 0 l ∧ gcdl 0 l ≤ w := by
  have d := gcdl_dvd l 0 m
  have n := gcdl_nonneg l 0 (by omega)
  refine ⟨?_, Int.le_of_dvd h d⟩
  rcases Int.lt_or_eq_of_le n with a | a
  · exact a
  · rw [← a] at d
    have := Int.zero_dvd.mp d
    omega
section
variable {gs : Gv} {fs : List Fn}
def g_point (sf sp : Nat) : Fn := ⟨"point", 3, ["x", "y", "z", "a", "b", "c", "d", "e", "f"], (.cons
  (.set (.tup (.cons (.tup (.cons (.name 3) (.cons (.name 4) .nil))) (.cons (.tup (.cons (.name 5) (.cons (.name 6) .nil))) (.cons (.tup (.cons (.name 7) (.cons (.name 8) .nil))) .nil)))) (.tup (.cons (.call sf (.cons (.var 0) .nil)) (.cons (.call sf (.cons (.var 1) .nil)) (.cons (.call sf (.cons (.var 2) .nil)) .nil)))))
  (.cons
  (.ret (.call sp (.cons (.tup (.cons (.bin .mul false (.bin .mul false (.var 3) (.var 6)) (.var 8)) (.cons (.bin .mul false (.bin .mul false (.var 5) (.var 4)) (.var 8)) (.cons (.bin .mul false (.bin .mul false (.var 7) (.var 4)) (.var 6)) .nil)))) (.cons (.bin .mul false (.bin .mul false (.var 4) (.var 6)) (.var 8)) .nil))))
  .nil)), false⟩
/-- three fractions told: what is told comes to (a, b), (c, d), (e, f) -/
theorem point_ok {i sf sp pa dv : Nat} (hi : fs[i]? = some (g_point sf sp)) (hs : fs[sp]? = some (g_spot pa)) (hp : fs[pa]? = some (g_parted dv)) (h4 : fs[dv]? = some g_divisor)
    {x y z : PV} {a b c d e f : Int} (n : Nat) (st : Sto) (hx : callN gs fs (n + 4) sf [x] st = .ok (.tup [.int a, .int b]) st) (hy : callN gs fs (n + 4) sf [y] st = .ok (.tup [.int c, .int d]) st) (hz : callN gs fs (n + 4) sf [z] st = .ok (.tup [.int e, .int f]) st)
    (b0 : 0 < b) (d0 : 0 < d) (f0 : 0 < f) (b1 : b ≤ 1000000) (d1 : d ≤ 1000000) (f1 : f ≤ 1000000) :
    callN gs fs (n + 5) i [x, y, z] st = .ok (.tup ((partedL [a * d * f, c * b * f, e * b * d, b * d * f]).map .int)) st := by
  have o : ∀ x y : Int, 0 < y → y ≤ 1000000 → mulOk x y = true := fun x y h1 h2 => mulOk_r (by omega)
  have w0 : 0 < b * d * f := Int.mul_pos (Int.mul_pos b0 d0) f0
  have w1 : b * d * f ≤ 1000000 * 1000000 * 1000000 := Int.mul_le_mul (Int.mul_le_mul b1 d1 (by omega) (by omega)) f1 (by omega) (by omega)
  obtain ⟨g0, g1⟩ := gcdl_pos (l := [a * d * f, c * b * f, e * b * d, b * d * f]) (w := b * d * f) (by simp) w0
  have q : callN gs fs (n + 4) sp [.tup [.int (a * d * f), .int (c * b * f), .int (e * b * d)], .int (b * d * f)] st = _ := (spot_ok (gs := gs) hs hp h4 [a * d * f, c * b * f, e * b * d] (b * d * f) (by simp) g0 (Int.lt_of_le_of_lt g1 (by omega)) (n + 1) st).1
  rw [call_eq hi rfl]
  simp [g_point, evE_var, hx, hy, hz, mkT, lineOk, items, Tgs.len, b_mul false (o _ d d0 d1), b_mul false (o _ f f0 f1), b_mul false (o _ b b0 b1), q]
def g_place (su ma : Nat) : Fn := ⟨"place", 1, ["point", "own", "number"], (.cons
  (.set (.name 1) (.call su (.cons (.var 0) .nil)))
  (.cons
  (.ret (.prim .tuple false (.cons (.comp false [("number", 2)] (.name 2) (.e (.slc false (.var 1) .nil (.cons (.int 3) .nil))) .nil (.call ma (.cons (.var 2) (.cons (.idx (.var 1) (.int 3)) .nil)))) .nil)))
  .nil)), false⟩
theorem place_ok {i su ma dv : Nat} (hi : fs[i]? = some (g_place su ma)) (hm : fs[ma]? = some (g_made dv)) (h4 : fs[dv]? = some g_divisor) {x : PV} {a b c d : Int} (n : Nat) (st : Sto)
    (hx : callN gs fs (n + 2) su [x] st = .ok (.tup [.int a, .int b, .int c, .int d]) st) (d0 : 0 < d) (d1 : d < 18446744073709551616) :
    callN gs fs (n + 3) i [x] st = .ok (.tup [.tup [.int (quotN a d), .int (quotD a d)], .tup [.int (quotN b d), .int (quotD b d)], .tup [.int (quotN c d), .int (quotD c d)]]) st := by
  have m : ∀ u : Int, callN gs fs (n + 2) ma [.int u, .int d] st = _ := fun u => made_ok (gs := gs) hm h4 (u := u) (l := d) (by omega) (by omega) n st
  rw [call_eq hi rfl]
  simp [g_place, evE_var, hx, items, HT.sIx, cut, mkT, lineOk, srcOf, wipe, compL_cons, compL_nil, compT, at3, m, mkL, p_tupL]
end
end Ev.L

/-! EvL8: two points. -/
namespace Ev.L
open PySem
section
variable {gs : Gv} {fs : List Fn}
def g_dot : Fn := ⟨"dot", 2, ["near", "far"], (.cons
  (.ret (.bin .add false (.bin .add false (.bin .mul false (.idx (.var 0) (.int 0)) (.idx (.var 1) (.int 0))) (.bin .mul false (.idx (.var 0) (.int 1)) (.idx (.var 1) (.int 1)))) (.bin .mul false (.idx (.var 0) (.int 2)) (.idx (.var 1) (.int 2)))))
  .nil), false⟩
theorem dot_ok {i : Nat} (hi : fs[i]? = some g_dot) {a b c d e f : Int} (h1 : mulOk a d = true) (h2 : mulOk b e = true) (h3 : mulOk c f = true) (n : Nat) (st : Sto) :
    callN gs fs (n + 1) i [.tup [.int a, .int b, .int c], .tup [.int d, .int e, .int f]] st = .ok (.int (a * d + b * e + c * f)) st := by
  rw [call_eq hi rfl]
  simp [g_dot, evE_var, items, at0, at1, at2, b_mul false h1, b_mul false h2, b_mul false h3, b_add]
def g_way_between : Fn := ⟨"way_between", 2, ["one", "other", "near", "far"], (.cons
  (.ret (.prim .tuple false (.cons (.comp false [("near", 2), ("far", 3)] (.tup (.cons (.name 2) (.cons (.name 3) .nil))) (.zip (.slc false (.var 0) .nil (.cons (.int 3) .nil)) (.slc false (.var 1) .nil (.cons (.int 3) .nil))) .nil (.bin .sub false (.bin .mul false (.var 3) (.idx (.var 0) (.int 3))) (.bin .mul false (.var 2) (.idx (.var 1) (.int 3))))) .nil)))
  .nil), false⟩
theorem way_between_ok {i : Nat} (hi : fs[i]? = some g_way_between) {a b c d e f g h : Int} (o1 : ∀ x, mulOk x d = true) (o2 : ∀ x, mulOk x h = true) (n : Nat) (st : Sto) :
    callN gs fs (n + 1) i [.tup [.int a, .int b, .int c, .int d], .tup [.int e, .int f, .int g, .int h]] st = .ok (.tup [.int (e * d - a * h), .int (f * d - b * h), .int (g * d - c * h)]) st := by
  rw [call_eq hi rfl]
  simp [g_way_between, evE_var, items, HT.sIx, cut, mkT, lineOk, zipT, wipe, compL_cons, compL_nil, compT, Tgs.len, at3, b_mul false (o1 _), b_mul false (o2 _), b_sub, mkL, p_tupL]
def g_half_way (su sp : Nat) : Fn := ⟨"half_way", 2, ["one", "other", "both", "near", "far", "a", "b"], (.cons
  (.set (.tup (.cons (.name 3) (.cons (.name 4) .nil))) (.tup (.cons (.call su (.cons (.var 0) .nil)) (.cons (.call su (.cons (.var 1) .nil)) .nil))))
  (.cons
  (.set (.name 2) (.comp false [("a", 5), ("b", 6)] (.tup (.cons (.name 5) (.cons (.name 6) .nil))) (.zip (.slc false (.var 3) .nil (.cons (.int 3) .nil)) (.slc false (.var 4) .nil (.cons (.int 3) .nil))) .nil (.bin .add false (.bin .mul false (.var 5) (.idx (.var 4) (.int 3))) (.bin .mul false (.var 6) (.idx (.var 3) (.int 3))))))
  (.cons
  (.ret (.call sp (.cons (.var 2) (.cons (.bin .mul false (.bin .mul false (.int 2) (.idx (.var 3) (.int 3))) (.idx (.var 4) (.int 3))) .nil))))
  .nil))), false⟩
theorem half_way_ok {i su sp pa dv : Nat} (hi : fs[i]? = some (g_half_way su sp)) (hs : fs[sp]? = some (g_spot pa)) (hp : fs[pa]? = some (g_parted dv)) (h4 : fs[dv]? = some g_divisor) {x y : PV} {a b c d e f g h : Int} (n : Nat) (st : Sto)
    (hx : callN gs fs (n + 3) su [x] st = .ok (.tup [.int a, .int b, .int c, .int d]) st) (hy : callN gs fs (n + 3) su [y] st = .ok (.tup [.int e, .int f, .int g, .int h]) st) (d0 : 0 < d) (h0 : 0 < h) (d1 : d ≤ 1000000000) (h1 : h ≤ 1000000000) :
    callN gs fs (n + 4) i [x, y] st = .ok (.tup ((partedL [a * h + e * d, b * h + f * d, c * h + g * d, 2 * d * h]).map .int)) st := by
  have o1 : ∀ x : Int, mulOk x d = true := fun x => mulOk_r (by omega)
  have o2 : ∀ x : Int, mulOk x h = true := fun x => mulOk_r (by omega)
  have w0 : 0 < 2 * d * h := Int.mul_pos (by omega) h0
  have w1 : 2 * d * h ≤ 2000000000 * 1000000000 := Int.mul_le_mul (by omega) h1 (by omega) (by omega)
  obtain ⟨g0, g1⟩ := gcdl_pos (l := [a * h + e * d, b * h + f * d, c * h + g * d, 2 * d * h]) (w := 2 * d * h) (by simp) w0
  have q : callN gs fs (n + 3) sp [.pl [.int (a * h + e * d), .int (b * h + f * d), .int (c * h + g * d)], .int (2 * d * h)] st = _ := (spot_ok (gs := gs) hs hp h4 [a * h + e * d, b * h + f * d, c * h + g * d] (2 * d * h) (by simp) g0 (Int.lt_of_le_of_lt g1 (by omega)) n st).2
  rw [call_eq hi rfl]
  simp [g_half_way, evE_var, hx, hy, items, HT.sIx, cut, mkT, lineOk, zipT, wipe, compL_cons, compL_nil, compT, Tgs.len, at3, b_mul false (o1 _), b_mul false (o2 _), b_add, mkL, q]
def g_square_between (su wb ma dt : Nat) : Fn := ⟨"square_between", 2, ["one", "other", "way", "near", "far"], (.cons
  (.set (.tup (.cons (.name 3) (.cons (.name 4) .nil))) (.tup (.cons (.call su (.cons (.var 0) .nil)) (.cons (.call su (.cons (.var 1) .nil)) .nil))))
  (.cons
  (.set (.name 2) (.call wb (.cons (.var 3) (.cons (.var 4) .nil))))
  (.cons
  (.ret (.call ma (.cons (.call dt (.cons (.var 2) (.cons (.var 2) .nil))) (.cons (.bin .pow false (.bin .mul false (.idx (.var 3) (.int 3)) (.idx (.var 4) (.int 3))) (.int 2)) .nil))))
  .nil))), false⟩
theorem b_pow2 (m : Bool) (st : Sto) {a : Int} (h : a.natAbs < 18446744073709551616) : binop m st .pow (.int a) (.int 2) = .ok (.int (a ^ 2)) st := by
  show (if powOk a 2 = true then R.ok (PV.int (a ^ (2 : Int).toNat)) st else R.bad) = _
  have : powOk a 2 = true := by simp [powOk, h]
  rw [if_pos this] <;> rfl
theorem square_between_ok {i su wb ma dt dv : Nat} (hi : fs[i]? = some (g_square_between su wb ma dt)) (hw : fs[wb]? = some g_way_between) (hd : fs[dt]? = some g_dot) (hm : fs[ma]? = some (g_made dv)) (h4 : fs[dv]? = some g_divisor) {x y : PV} {a b c d e f g h : Int} (n : Nat) (st : Sto)
    (hx : callN gs fs (n + 3) su [x] st = .ok (.tup [.int a, .int b, .int c, .int d]) st) (hy : callN gs fs (n + 3) su [y] st = .ok (.tup [.int e, .int f, .int g, .int h]) st) (d0 : 0 < d) (h0 : 0 < h) (d1 : d ≤ 30000) (h1 : h ≤ 30000)
    (u1 : (e * d - a * h).natAbs < 18446744073709551616) (u2 : (f * d - b * h).natAbs < 18446744073709551616) (u3 : (g * d - c * h).natAbs < 18446744073709551616) :
    callN gs fs (n + 4) i [x, y] st = .ok (.tup [.int (quotN ((e * d - a * h) * (e * d - a * h) + (f * d - b * h) * (f * d - b * h) + (g * d - c * h) * (g * d - c * h)) ((d * h) ^ 2)), .int (quotD ((e * d - a * h) * (e * d - a * h) + (f * d - b * h) * (f * d - b * h) + (g * d - c * h) * (g * d - c * h)) ((d * h) ^ 2))]) st := by
  have o1 : ∀ x : Int, mulOk x d = true := fun x => mulOk_r (by omega)
  have o2 : ∀ x : Int, mulOk x h = true := fun x => mulOk_r (by omega)
  have w0 : 0 < d * h := Int.mul_pos d0 h0
  have w1 : d * h ≤ 30000 * 30000 := Int.mul_le_mul d1 h1 (by omega) (by omega)
  have w2 : 0 < (d * h) ^ 2 := by rw [Int.pow_succ, Int.pow_succ, Int.pow_zero, Int.one_mul]; exact Int.mul_pos w0 w0
  have w3 : (d * h) ^ 2 ≤ (30000 * 30000) * (30000 * 30000) := by rw [Int.pow_succ, Int.pow_succ, Int.pow_zero, Int.one_mul]; exact Int.mul_le_mul w1 w1 (by omega) (by omega)
  have q1 : callN gs fs (n + 3) wb [.tup [.int a, .int b, .int c, .int d], .tup [.int e, .int f, .int g, .int h]] st = _ := way_between_ok hw o1 o2 (n + 2) st
  have q2 : callN gs fs (n + 3) dt [.tup [.int (e * d - a * h), .int (f * d - b * h), .int (g * d - c * h)], .tup [.int (e * d - a * h), .int (f * d - b * h), .int (g * d - c * h)]] st = _ := dot_ok hd (mulOk_l u1) (mulOk_l u2) (mulOk_l u3) (n + 2) st
  have q3 := made_ok (gs := gs) hm h4 (u := (e * d - a * h) * (e * d - a * h) + (f * d - b * h) * (f * d - b * h) + (g * d - c * h) * (g * d - c * h)) (l := (d * h) ^ 2) (by omega) (by omega) (n + 1) st
  have pw := b_pow2 false st (a := d * h) (by omega)
  rw [call_eq hi rfl]
  simp [g_square_between, evE_var, hx, hy, items, mkT, lineOk, Tgs.len, q1, q2, at3, b_mul false (o2 _), pw, q3]
end
end Ev.L

/-! EvL9: directions. -/
namespace Ev.L
open PySem
section
variable {gs : Gv} {fs : List Fn}
def g_is_direction (rw_ : Nat) : Fn := ⟨"is_direction", 1, ["thing"], (.cons
  (.ret (.and_ (.cons (.call rw_ (.cons (.var 0) (.cons (.int 3) .nil))) (.cons (.cmp .ne (.var 0) (.tup (.cons (.int 0) (.cons (.int 0) (.cons (.int 0) .nil))))) .nil))))
  .nil), false⟩
theorem is_direction_ok {i rw_ il nu : Nat} (hi : fs[i]? = some (g_is_direction rw_)) (h0 : fs[rw_]? = some (g_is_row il nu)) (h1 : fs[il]? = some g_is_long) (h2 : fs[nu]? = some g_is_number) (a b c : Int) (n : Nat) (st : Sto) :
    callN gs fs (n + 3) i [.tup [.int a, .int b, .int c]] st = .ok (.bl (!(a == 0 && (b == 0 && c == 0)))) st := by
  have q1 : callN gs fs (n + 2) rw_ [.tup [.int a, .int b, .int c], .int 3] st = .ok (.bl true) st := is_row_ok (gs := gs) h0 h1 h2 [a, b, c] (by simp) 3 n st
  have q2 : cmpop st .ne (.tup [.int a, .int b, .int c]) (.tup [.int 0, .int 0, .int 0]) = some (!(a == 0 && (b == 0 && c == 0))) := by
    rw [c_neT rfl rfl]
    simp [peqs, peq]
  rw [call_eq hi rfl]
  simp only [g_is_direction, ss_cons, s_ret, ev_and, and_more, and_one, ev_call, args_var_, args_int_, ev_int, args_nil, evE_var, List.map_cons, List.map_nil, List.cons_append, List.nil_append, List.getElem?_cons_succ, List.getElem?_cons_zero, bind_ok, q1, t_bl, toR_some, if_true, ev_cmp, ev_tup, mkT, lineOk,
    List.length_cons, List.length_nil]
  simp [q2]
def g_sure_direction (tu ip x : Nat) : Fn := ⟨"sure_direction", 1, ["direction", "own"], (.cons
  (.set (.name 1) (.call tu (.cons (.var 0) .nil)))
  (.cons
  (.iff (.not_ (.call ip (.cons (.var 1) .nil))) (.cons
   (.raise x)
   .nil) .nil)
  (.cons
  (.ret (.var 1))
  .nil))), false⟩
theorem sure_direction_ok {i rw_ il nu tu ip x : Nat} (hi : fs[i]? = some (g_sure_direction tu ip x)) (hp : fs[ip]? = some (g_is_direction rw_)) (ht : fs[tu]? = some (g_tupled tu)) (h0 : fs[rw_]? = some (g_is_row il nu)) (h1 : fs[il]? = some g_is_long) (h2 : fs[nu]? = some g_is_number)
    {a b c : Int} (z : ¬ (a = 0 ∧ b = 0 ∧ c = 0)) (n : Nat) (st : Sto) : callN gs fs (n + 4) i [.tup [.int a, .int b, .int c]] st = .ok (.tup [.int a, .int b, .int c]) st := by
  have q := is_direction_ok (gs := gs) hp h0 h1 h2 a b c n st
  have e : (!(a == 0 && (b == 0 && c == 0))) = true := by simp; omega
  rw [e] at q
  obtain ⟨t1, _⟩ := tupled_row (gs := gs) ht [a, b, c] (by simp) (n + 1) st
  have t1 : callN gs fs (n + 3) tu [.tup [.int a, .int b, .int c]] st = .ok (.tup [.int a, .int b, .int c]) st := t1
  rw [call_eq hi rfl]
  simp [g_sure_direction, evE_var, t1, q, t_bl]
def g_least_direction (pa sd : Nat) : Fn := ⟨"least_direction", 1, ["direction"], (.cons
  (.ret (.call pa (.cons (.call sd (.cons (.var 0) .nil)) .nil)))
  .nil), false⟩
theorem least_direction_ok {i pa sd dv : Nat} (hi : fs[i]? = some (g_least_direction pa sd)) (hp : fs[pa]? = some (g_parted dv)) (h4 : fs[dv]? = some g_divisor) {x : PV} {a b c : Int} (n : Nat) (st : Sto) (hx : callN gs fs (n + 4) sd [x] st = .ok (.tup [.int a, .int b, .int c]) st)
    (g0 : 0 < gcdl 0 [a, b, c]) (g1 : gcdl 0 [a, b, c] < 18446744073709551616) : callN gs fs (n + 5) i [x] st = .ok (.tup ((partedL [a, b, c]).map .int)) st := by
  have q : callN gs fs (n + 4) pa [.tup [.int a, .int b, .int c]] st = _ := parted_ok (gs := gs) hp h4 (l := [a, b, c]) (by simp) g0 g1 (n + 2) st
  rw [call_eq hi rfl]
  simp [g_least_direction, evE_var, hx, q]
def g_direction_between (su pa wb x : Nat) : Fn := ⟨"direction_between", 2, ["one", "other", "near", "far"], (.cons
  (.set (.tup (.cons (.name 2) (.cons (.name 3) .nil))) (.tup (.cons (.call su (.cons (.var 0) .nil)) (.cons (.call su (.cons (.var 1) .nil)) .nil))))
  (.cons
  (.iff (.cmp .eq (.var 2) (.var 3)) (.cons
   (.raise x)
   .nil) .nil)
  (.cons
  (.ret (.call pa (.cons (.call wb (.cons (.var 2) (.cons (.var 3) .nil))) .nil)))
  .nil))), false⟩
theorem eq_four (st : Sto) (a b c d e f g h : Int) : cmpop st .eq (.tup [.int a, .int b, .int c, .int d]) (.tup [.int e, .int f, .int g, .int h]) = some (decide (a = e ∧ b = f ∧ c = g ∧ d = h)) := by
  rw [c_eqT rfl rfl]
  simp [peqs, peq]
  rw [Bool.eq_iff_iff]
  simp
/-- one point twice -/
theorem direction_between_same {i su pa wb x : Nat} (hi : fs[i]? = some (g_direction_between su pa wb x)) {u v : PV} {a b c d : Int} (n : Nat) (st : Sto) (hb : belowAll st.length st.length st = true)
    (hx : callN gs fs n su [u] st = .ok (.tup [.int a, .int b, .int c, .int d]) st) (hy : callN gs fs n su [v] st = .ok (.tup [.int a, .int b, .int c, .int d]) st) : callN gs fs (n + 1) i [u, v] st = .ex x none st := by
  rw [call_eq hi rfl]
  simp [g_direction_between, evE_var, hx, hy, items, mkT, lineOk, Tgs.len, eq_four, t_bl, finish, hb]
theorem direction_between_ok {i su pa wb x dv : Nat} (hi : fs[i]? = some (g_direction_between su pa wb x)) (hw : fs[wb]? = some g_way_between) (hp : fs[pa]? = some (g_parted dv)) (h4 : fs[dv]? = some g_divisor) {u v : PV} {a b c d e f g h : Int} (n : Nat) (st : Sto)
    (hx : callN gs fs (n + 3) su [u] st = .ok (.tup [.int a, .int b, .int c, .int d]) st) (hy : callN gs fs (n + 3) su [v] st = .ok (.tup [.int e, .int f, .int g, .int h]) st) (ne : ¬ (a = e ∧ b = f ∧ c = g ∧ d = h))
    (o1 : ∀ x, mulOk x d = true) (o2 : ∀ x, mulOk x h = true) (g0 : 0 < gcdl 0 [e * d - a * h, f * d - b * h, g * d - c * h]) (g1 : gcdl 0 [e * d - a * h, f * d - b * h, g * d - c * h] < 18446744073709551616) :
    callN gs fs (n + 4) i [u, v] st = .ok (.tup ((partedL [e * d - a * h, f * d - b * h, g * d - c * h]).map .int)) st := by
  have q1 : callN gs fs (n + 3) wb [.tup [.int a, .int b, .int c, .int d], .tup [.int e, .int f, .int g, .int h]] st = _ := way_between_ok hw o1 o2 (n + 2) st
  have q2 : callN gs fs (n + 3) pa [.tup [.int (e * d - a * h), .int (f * d - b * h), .int (g * d - c * h)]] st = _ := parted_ok (gs := gs) hp h4 (l := [e * d - a * h, f * d - b * h, g * d - c * h]) (by simp) g0 g1 (n + 1) st
  have q3 := eq_four st a b c d e f g h
  rw [decide_eq_false ne] at q3
  rw [call_eq hi rfl]
  simp [g_direction_between, evE_var, hx, hy, items, mkT, lineOk, Tgs.len, q3, t_bl, q1, q2]
end
end Ev.L

/-! EvL10: a point moved. -/
namespace Ev.L
open PySem
section
variable {gs : Gv} {fs : List Fn}
def g_moved_by (su tu il sf sp x : Nat) : Fn := ⟨"moved_by", 2, ["point", "way", "by", "gone", "own", "told", "a", "b", "c", "d", "e", "f", "one", "number", "more"], (.cons
  (.set (.tup (.cons (.name 4) (.cons (.name 5) .nil))) (.tup (.cons (.call su (.cons (.var 0) .nil)) (.cons (.call tu (.cons (.var 1) .nil)) .nil))))
  (.cons
  (.iff (.not_ (.call il (.cons (.var 5) (.cons (.int 3) .nil)))) (.cons
   (.raise x)
   .nil) .nil)
  (.cons
  (.set (.tup (.cons (.tup (.cons (.name 6) (.cons (.name 7) .nil))) (.cons (.tup (.cons (.name 8) (.cons (.name 9) .nil))) (.cons (.tup (.cons (.name 10) (.cons (.name 11) .nil))) .nil)))) (.comp false [("one", 12)] (.name 12) (.e (.var 5)) .nil (.call sf (.cons (.var 12) .nil))))
  (.cons
  (.set (.name 2) (.bin .mul false (.bin .mul false (.var 7) (.var 9)) (.var 11)))
  (.cons
  (.set (.name 3) (.tup (.cons (.bin .mul false (.bin .mul false (.var 6) (.var 9)) (.var 11)) (.cons (.bin .mul false (.bin .mul false (.var 8) (.var 7)) (.var 11)) (.cons (.bin .mul false (.bin .mul false (.var 10) (.var 7)) (.var 9)) .nil)))))
  (.cons
  (.ret (.call sp (.cons (.comp false [("number", 13), ("more", 14)] (.tup (.cons (.name 13) (.cons (.name 14) .nil))) (.zip (.slc false (.var 4) .nil (.cons (.int 3) .nil)) (.var 3)) .nil (.bin .add false (.bin .mul false (.var 13) (.var 2)) (.bin .mul false (.var 14) (.idx (.var 4) (.int 3))))) (.cons (.bin .mul false (.idx (.var 4) (.int 3)) (.var 2)) .nil))))
  .nil)))))), false⟩
theorem moved_by_ok {i su tu il sf sp x pa dv : Nat} (hi : fs[i]? = some (g_moved_by su tu il sf sp x)) (h1 : fs[il]? = some g_is_long) (hs : fs[sp]? = some (g_spot pa)) (hp : fs[pa]? = some (g_parted dv)) (h4 : fs[dv]? = some g_divisor)
    {u v : PV} {p q r w a b c d e f : Int} (n : Nat) (st : Sto) (hu : callN gs fs (n + 4) su [u] st = .ok (.tup [.int p, .int q, .int r, .int w]) st)
    (hv : callN gs fs (n + 4) tu [v] st = .ok (.tup [.tup [.int a, .int b], .tup [.int c, .int d], .tup [.int e, .int f]]) st)
    (hx : callN gs fs (n + 4) sf [.tup [.int a, .int b]] st = .ok (.tup [.int a, .int b]) st) (hy : callN gs fs (n + 4) sf [.tup [.int c, .int d]] st = .ok (.tup [.int c, .int d]) st) (hz : callN gs fs (n + 4) sf [.tup [.int e, .int f]] st = .ok (.tup [.int e, .int f]) st)
    (b0 : 0 < b) (d0 : 0 < d) (f0 : 0 < f) (w0 : 0 < w) (b1 : b ≤ 1000) (d1 : d ≤ 1000) (f1 : f ≤ 1000) (w1 : w ≤ 1000000) :
    callN gs fs (n + 5) i [u, v] st = .ok (.tup ((partedL [p * (b * d * f) + a * d * f * w, q * (b * d * f) + c * b * f * w, r * (b * d * f) + e * b * d * w, w * (b * d * f)]).map .int)) st := by
  have z0 : 0 < b * d * f := Int.mul_pos (Int.mul_pos b0 d0) f0
  have z1 : b * d * f ≤ 1000 * 1000 * 1000 := Int.mul_le_mul (Int.mul_le_mul b1 d1 (by omega) (by omega)) f1 (by omega) (by omega)
  have y0 : 0 < w * (b * d * f) := Int.mul_pos w0 z0
  have y1 : w * (b * d * f) ≤ 1000000 * (1000 * 1000 * 1000) := Int.mul_le_mul w1 z1 (by omega) (by omega)
  have ob : ∀ x : Int, mulOk x b = true := fun x => mulOk_r (by omega)
  have od : ∀ x : Int, mulOk x d = true := fun x => mulOk_r (by omega)
  have of : ∀ x : Int, mulOk x f = true := fun x => mulOk_r (by omega)
  have ow : ∀ x : Int, mulOk x w = true := fun x => mulOk_r (by omega)
  have oz : ∀ x : Int, mulOk x (b * d * f) = true := fun x => mulOk_r (by omega)
  obtain ⟨g0, g1⟩ := gcdl_pos (l := [p * (b * d * f) + a * d * f * w, q * (b * d * f) + c * b * f * w, r * (b * d * f) + e * b * d * w, w * (b * d * f)]) (w := w * (b * d * f)) (by simp) y0
  have k1 : callN gs fs (n + 4) il [.tup [.tup [.int a, .int b], .tup [.int c, .int d], .tup [.int e, .int f]], .int 3] st = .ok (.bl true) st := is_long_ok (gs := gs) h1 (.tup [.tup [.int a, .int b], .tup [.int c, .int d], .tup [.int e, .int f]]) 3 rfl (n + 3) st
  have k2 : callN gs fs (n + 4) sp [.pl [.int (p * (b * d * f) + a * d * f * w), .int (q * (b * d * f) + c * b * f * w), .int (r * (b * d * f) + e * b * d * w)], .int (w * (b * d * f))] st = _ :=
    (spot_ok (gs := gs) hs hp h4 [p * (b * d * f) + a * d * f * w, q * (b * d * f) + c * b * f * w, r * (b * d * f) + e * b * d * w] (w * (b * d * f)) (by simp) g0 (Int.lt_of_le_of_lt g1 (by omega)) (n + 1) st).2
  rw [call_eq hi rfl]
  simp [g_moved_by, evE_var, hu, hv, hx, hy, hz, k1, k2, t_bl, items, HT.sIx, cut, mkT, lineOk, zipT, wipe, srcOf, compL_cons, compL_nil, compT, Tgs.len, at3, b_mul false (ob _), b_mul false (od _), b_mul false (of _), b_mul false (ow _), b_mul false (oz _), b_add, mkL]
end
end Ev.L

/-! EvL11: the laws' own defs: rows made least. -/
namespace Ev.L
open PySem
section
variable {gs : Gv} {fs : List Fn}
def leastB : Ss := (.cons
   (.set (.tup (.cons (.name 3) (.cons (.name 4) .nil))) (.tup (.cons (.prim .abs false (.cons (.var 2) .nil)) (.cons (.var 1) .nil))))
   (.cons
   (.whl (.cmp .gt (.var 3) (.int 0)) (euclB 3))
   (.cons
   (.set (.name 1) (.var 4))
   .nil)))
def g_least_numbers : Fn := ⟨"_law_least_numbers", 1, ["_law_numbers_so", "_law_by_so", "_law_own", "_law_one_so", "_law_two_so"], (.cons
  (.set (.name 1) (.int 0))
  (.cons
  (.for_ (.name 2) (.e (.var 0)) leastB)
  (.cons
  (.ret (.prim .tuple false (.cons (.comp false [("_law_own", 2)] (.name 2) (.e (.var 0)) .nil (.bin .fdiv false (.var 2) (.var 1))) .nil)))
  .nil))), false⟩
theorem least_loop {cl : Cl} {ar : Nat → Nat} {st : Sto} {v : PV} : ∀ (l : List Int) (g : Nat) (o2 o3 o4 : Option PV), (∀ x ∈ l, x.natAbs < 18446744073709551616) → ∃ p2 p3 p4, forL cl gs ar [] (.name 2) leastB
    (l.map .int) [some v, some (.int g), o2, o3, o4] st = .next [some v, some (.int (gcdl g l)), p2, p3, p4] st
  | [], g, o2, o3, o4, _ => ⟨o2, o3, o4, rfl⟩
  | x :: r, g, o2, o3, o4, h => by
    have e := eucl_loop (cl := cl) (gs := gs) (ar := ar) (some v) (some (.int g)) (some (.int x)) st x.natAbs g wFuel (by have := h x (by simp); unfold wFuel; omega)
    obtain ⟨p2, p3, p4, q⟩ := least_loop (cl := cl) (ar := ar) (st := st) (v := v) r (Nat.gcd g x.natAbs) (some (.int x)) (some (.int 0)) (some (.int (Nat.gcd g x.natAbs : Nat))) fun y hy => h y (by simp [hy])
    refine ⟨p2, p3, p4, ?_⟩
    rw [Nat.gcd_comm] at e
    rw [List.map_cons, forL_cons (e1 := [some v, some (.int g), some (.int x), o3, o4]) (e2 := [some v, some (.int (Nat.gcd g x.natAbs : Nat)), some (.int x), some (.int 0), some (.int (Nat.gcd g x.natAbs : Nat))]) (st' := st)]
    · rw [q, gcdl]
      rfl
    · simp
    · simp [leastB, evE_var, p_abs, abs_nat, mkT, lineOk, items, Tgs.len, e]
/-- what it comes to is what parted comes to -/
theorem least_numbers_ok {i : Nat} (hi : fs[i]? = some g_least_numbers) {l : List Int} (hl : l.length ≤ 1000) (hb : ∀ x ∈ l, x.natAbs < 18446744073709551616) (g0 : 0 < gcdl 0 l) (g1 : gcdl 0 l < 18446744073709551616) (n : Nat) (st : Sto) :
    callN gs fs (n + 1) i [.tup (l.map .int)] st = .ok (.tup ((partedL l).map .int)) st := by
  rw [call_eq hi rfl]
  obtain ⟨p2, p3, p4, d⟩ := least_loop (cl := callN gs fs n) (gs := gs) (ar := arOf fs) (st := st) (v := .tup (l.map .int)) l 0 none none none hb
  have o1 := fdivOk_small g0 g1
  have c : ∀ p0 p3 p4, compL (callN gs fs n) gs (arOf fs) [] (.name 2) .nil (.bin .fdiv false (.var 2) (.var 1)) [p0, some (.int (gcdl 0 l)), none, p3, p4] (l.map .int) st = .ok ((l.map PV.int).map fun x => match x with | .int x => .int (x / gcdl 0 l) | y => y) st := fun p0 p3 p4 =>
    compL_pure _ _ fun x hx => by
      obtain ⟨y, _, rfl⟩ := List.mem_map.mp hx
      simp [compT, evE_var, b_fdiv false o1]
  have e : ((l.map PV.int).map fun x => match x with | PV.int x => PV.int (x / gcdl 0 l) | y => y) = (partedL l).map PV.int := by simp [partedL]
  have o2 : lineOk ((partedL l).map PV.int) = true := lineOk_le (by simp [partedL]; exact hl)
  rw [e] at c
  have d : forL (callN gs fs n) gs (arOf fs) [] (.name 2) leastB (l.map .int) [some (.tup (l.map .int)), some (.int 0), none, none, none] st = _ := d
  simp [g_least_numbers, evE_var, srcOf, d, wipe, c, mkL, o2, p_tupL, mkT]
end
end Ev.L

/-! EvL12: lowest terms, the mathematics. -/
namespace Ev.L
open PySem
theorem sgn_abs {l : Int} (h : l ≠ 0) : sgnI l * l = (l.natAbs : Int) := by unfold sgnI; split <;> omega
theorem gcdI_pos {u l : Int} (h : l ≠ 0) : 0 < gcdI u l := by
  have := Nat.gcd_pos_of_pos_right u.natAbs (n := l.natAbs) (by omega)
  unfold gcdI; omega
theorem gcdI_dvd_l (u l : Int) : gcdI u l ∣ u := Int.dvd_natAbs.mp (Int.natCast_dvd_natCast.mpr (Nat.gcd_dvd_left _ _))
theorem gcdI_dvd_r (u l : Int) : gcdI u l ∣ l := Int.dvd_natAbs.mp (Int.natCast_dvd_natCast.mpr (Nat.gcd_dvd_right _ _))
/-- the fraction is the same -/
theorem quot_num {u l : Int} (h : l ≠ 0) : gcdI u l * quotN u l = sgnI l * u := Int.mul_ediv_cancel' (Int.dvd_trans (gcdI_dvd_l u l) (Int.dvd_mul_left _ _))
theorem quot_den {u l : Int} (h : l ≠ 0) : gcdI u l * quotD u l = sgnI l * l := Int.mul_ediv_cancel' (Int.dvd_trans (gcdI_dvd_r u l) (Int.dvd_mul_left _ _))
theorem quotD_pos {u l : Int} (h : l ≠ 0) : 0 < quotD u l := by
  have a := quot_den (u := u) h
  rw [sgn_abs h] at a
  have g := gcdI_pos (u := u) h
  have p : 0 < gcdI u l * quotD u l := by rw [a]; omega
  exact Int.pos_of_mul_pos_right p (by omega)
theorem sgn_one (l : Int) : (sgnI l).natAbs = 1 := by unfold sgnI; split <;> rfl
theorem quotN_abs {u l : Int} (h : l ≠ 0) : Nat.gcd u.natAbs l.natAbs * (quotN u l).natAbs = u.natAbs := by
  have a := congrArg Int.natAbs (quot_num (u := u) h)
  rw [Int.natAbs_mul, Int.natAbs_mul, sgn_one, Nat.one_mul] at a
  exact a
theorem quotD_abs {u l : Int} (h : l ≠ 0) : Nat.gcd u.natAbs l.natAbs * (quotD u l).natAbs = l.natAbs := by
  have a := congrArg Int.natAbs (quot_den (u := u) h)
  rw [Int.natAbs_mul, Int.natAbs_mul, sgn_one, Nat.one_mul] at a
  exact a
theorem quot_low {u l : Int} (h : l ≠ 0) : Low (quotN u l) (quotD u l) := by
  refine ⟨quotD_pos h, ?_⟩
  have g := Nat.gcd_pos_of_pos_right u.natAbs (n := l.natAbs) (by omega)
  have e : Nat.gcd u.natAbs l.natAbs * Nat.gcd (quotN u l).natAbs (quotD u l).natAbs = Nat.gcd u.natAbs l.natAbs := by
    rw [← Nat.gcd_mul_left, quotN_abs h, quotD_abs h]
  exact Nat.eq_of_mul_eq_mul_left g (by rw [e, Nat.mul_one])
theorem quotN_le {u l : Int} (h : l ≠ 0) : (quotN u l).natAbs ≤ u.natAbs := by
  have g := Nat.gcd_pos_of_pos_right u.natAbs (n := l.natAbs) (by omega)
  have e := quotN_abs (u := u) h
  calc (quotN u l).natAbs ≤ Nat.gcd u.natAbs l.natAbs * (quotN u l).natAbs := Nat.le_mul_of_pos_left _ g
    _ = u.natAbs := e
theorem quotD_le {u l : Int} (h : l ≠ 0) : (quotD u l).natAbs ≤ l.natAbs := by
  have g := Nat.gcd_pos_of_pos_right u.natAbs (n := l.natAbs) (by omega)
  have e := quotD_abs (u := u) h
  calc (quotD u l).natAbs ≤ Nat.gcd u.natAbs l.natAbs * (quotD u l).natAbs := Nat.le_mul_of_pos_left _ g
    _ = l.natAbs := e
/-- lowest terms are one form -/
theorem low_unique {a b c d : Int} (h1 : Low a b) (h2 : Low c d) (e : a * d = c * b) : a = c ∧ b = d := by
  obtain ⟨b0, g1⟩ := h1
  obtain ⟨d0, g2⟩ := h2
  have en : a.natAbs * d.natAbs = c.natAbs * b.natAbs := by
    have := congrArg Int.natAbs e
    rwa [Int.natAbs_mul, Int.natAbs_mul] at this
  have k1 : b.natAbs ∣ d.natAbs := by
    have : b.natAbs ∣ a.natAbs * d.natAbs := ⟨c.natAbs, by rw [en, Nat.mul_comm]⟩
    exact Nat.Coprime.dvd_of_dvd_mul_left (Nat.Coprime.symm g1) this
  have k2 : d.natAbs ∣ b.natAbs := by
    have : d.natAbs ∣ c.natAbs * b.natAbs := ⟨a.natAbs, by rw [← en, Nat.mul_comm]⟩
    exact Nat.Coprime.dvd_of_dvd_mul_left (Nat.Coprime.symm g2) this
  have k := Nat.dvd_antisymm k1 k2
  have eb : b = d := by omega
  subst eb
  exact ⟨Int.eq_of_mul_eq_mul_right (by omega) e, rfl⟩
end Ev.L

/-! EvL13: draws of law k07. -/
namespace Ev.L
open PySem
section
variable {gs : Gv} {fs : List Fn}
def g_small (qu ta : Nat) : Fn := ⟨"_law_small", 1, ["_law_tin"], (.cons
  (.ret (.call qu (.cons (.bin .sub false (.call ta (.cons (.var 0) (.cons (.int 81) .nil))) (.int 40)) (.cons (.bin .add false (.int 1) (.call ta (.cons (.var 0) (.cons (.int 4) .nil)))) .nil))))
  .nil), false⟩
theorem small_ok {i qu ta : Nat} {N : List Str} (hN : N.length = 6) (hi : fs[i]? = some (g_small qu ta)) (hq : fs[qu]? = some g_quot) (ht : fs[ta]? = some (g_take N)) {K : Nat} (hK : K < 1000000) {h : List PV} (t : Tin K h) (r : Sto) (n : Nat) :
    ∃ a b h', callN gs fs (n + 2) i [.ml 0] (h :: r) = .ok (.tup [.int a, .int b]) (h' :: r) ∧ Low a b ∧ a.natAbs ≤ 40 ∧ b ≤ 4 ∧ Tin (K + 2) h' := by
  obtain ⟨x, h1, e1, x0, x1, t1⟩ := take_ok (gs := gs) hN ht (by omega) t r (m := 81) (by omega) (by omega) n
  obtain ⟨y, h2, e2, y0, y1, t2⟩ := take_ok (gs := gs) hN ht (by omega) t1 r (m := 4) (by omega) (by omega) n
  have l0 : (1 + y) ≠ 0 := by omega
  have q := quot_ok (gs := gs) hq (u := x - 40) (l := 1 + y) (by omega) (by omega) l0 n (h2 :: r)
  have a1 := quotN_le (u := x - 40) l0
  have b1 := quotD_le (u := x - 40) l0
  have b0 := quotD_pos (u := x - 40) l0
  refine ⟨_, _, h2, ?_, quot_low (u := x - 40) l0, by omega, by omega, t2⟩
  rw [call_eq hi rfl]
  simp [g_small, evE_var, e1, e2, b_sub, b_add, q]
def g_trio (sm : Nat) : Fn := ⟨"_law_trio", 1, ["_law_tin", "_law_k"], (.cons
  (.ret (.prim .tuple false (.cons (.comp false [("_law_k", 1)] (.name 1) (.range (.cons (.int 3) .nil)) .nil (.call sm (.cons (.var 0) .nil))) .nil)))
  .nil), false⟩
theorem range3 : rangeOf [.int 3] = some [.int 0, .int 1, .int 2] := by simp [rangeOf, upto]
theorem trio_ok {i sm qu ta : Nat} {N : List Str} (hN : N.length = 6) (hi : fs[i]? = some (g_trio sm)) (hs : fs[sm]? = some (g_small qu ta)) (hq : fs[qu]? = some g_quot) (ht : fs[ta]? = some (g_take N)) {K : Nat} (hK : K < 100000) {h : List PV} (t : Tin K h) (r : Sto) (n : Nat) :
    ∃ a b c d e f h', callN gs fs (n + 3) i [.ml 0] (h :: r) = .ok (.tup [.tup [.int a, .int b], .tup [.int c, .int d], .tup [.int e, .int f]]) (h' :: r) ∧ (Low a b ∧ a.natAbs ≤ 40 ∧ b ≤ 4) ∧ (Low c d ∧ c.natAbs ≤ 40 ∧ d ≤ 4) ∧ (Low e f ∧ e.natAbs ≤ 40 ∧ f ≤ 4) ∧ Tin (K + 6) h' := by
  obtain ⟨a, b, h1, e1, l1, a1, b1, t1⟩ := small_ok (gs := gs) hN hs hq ht (by omega) t r n
  obtain ⟨c, d, h2, e2, l2, c1, d1, t2⟩ := small_ok (gs := gs) hN hs hq ht (by omega) t1 r n
  obtain ⟨e, f, h3, e3, l3, f1, g1, t3⟩ := small_ok (gs := gs) hN hs hq ht (by omega) t2 r n
  refine ⟨a, b, c, d, e, f, h3, ?_, ⟨l1, a1, b1⟩, ⟨l2, c1, d1⟩, ⟨l3, f1, g1⟩, t3⟩
  rw [call_eq hi rfl]
  simp [g_trio, evE_var, range3, wipe, compL_cons, compL_nil, compT, e1, e2, e3, mkL, lineOk, p_tupL, mkT]
def g_far (ta : Nat) : Fn := ⟨"_law_far", 1, ["_law_tin", "_law_found", "_law_k"], (.cons
  (.set (.name 1) (.prim .tuple false (.cons (.comp false [("_law_k", 2)] (.name 2) (.range (.cons (.int 3) .nil)) .nil (.bin .sub false (.call ta (.cons (.var 0) (.cons (.int 9) .nil))) (.int 4))) .nil)))
  (.cons
  (.ret (.ite (.cmp .ne (.var 1) (.tup (.cons (.int 0) (.cons (.int 0) (.cons (.int 0) .nil))))) (.var 1) (.tup (.cons (.int 0) (.cons (.int 0) (.cons (.int 2) .nil))))))
  .nil)), false⟩
theorem ne_three (st : Sto) (a b c : Int) : cmpop st .ne (.tup [.int a, .int b, .int c]) (.tup [.int 0, .int 0, .int 0]) = some (!decide (a = 0 ∧ b = 0 ∧ c = 0)) := by
  rw [c_neT rfl rfl]
  simp [peqs, peq]
  rw [Bool.eq_iff_iff]
  simp
theorem far_ok {i ta : Nat} {N : List Str} (hN : N.length = 6) (hi : fs[i]? = some (g_far ta)) (ht : fs[ta]? = some (g_take N)) {K : Nat} (hK : K < 100000) {h : List PV} (t : Tin K h) (r : Sto) (n : Nat) :
    ∃ a b c h', callN gs fs (n + 2) i [.ml 0] (h :: r) = .ok (.tup [.int a, .int b, .int c]) (h' :: r) ∧ ¬ (a = 0 ∧ b = 0 ∧ c = 0) ∧ a.natAbs ≤ 4 ∧ b.natAbs ≤ 4 ∧ c.natAbs ≤ 4 ∧ Tin (K + 3) h' := by
  obtain ⟨x, h1, e1, x0, x1, t1⟩ := take_ok (gs := gs) hN ht (by omega) t r (m := 9) (by omega) (by omega) n
  obtain ⟨y, h2, e2, y0, y1, t2⟩ := take_ok (gs := gs) hN ht (by omega) t1 r (m := 9) (by omega) (by omega) n
  obtain ⟨z, h3, e3, z0, z1, t3⟩ := take_ok (gs := gs) hN ht (by omega) t2 r (m := 9) (by omega) (by omega) n
  have q := ne_three (h3 :: r) (x - 4) (y - 4) (z - 4)
  by_cases hz : x - 4 = 0 ∧ y - 4 = 0 ∧ z - 4 = 0
  · rw [decide_eq_true hz] at q
    refine ⟨0, 0, 2, h3, ?_, by omega, by omega, by omega, by omega, t3⟩
    rw [call_eq hi rfl]
    simp [g_far, evE_var, range3, wipe, compL_cons, compL_nil, compT, e1, e2, e3, b_sub, mkL, lineOk, p_tupL, mkT, q, t_bl]
  · rw [decide_eq_false hz] at q
    refine ⟨x - 4, y - 4, z - 4, h3, ?_, hz, by omega, by omega, by omega, t3⟩
    rw [call_eq hi rfl]
    simp [g_far, evE_var, range3, wipe, compL_cons, compL_nil, compT, e1, e2, e3, b_sub, mkL, lineOk, p_tupL, mkT, q, t_bl]
end
end Ev.L

/-! EvL14: a point of a trio, by the law. -/
namespace Ev.L
open PySem
section
variable {gs : Gv} {fs : List Fn}
def g_point_of (ln : Nat) : Fn := ⟨"_law_point_of", 1, ["_law_trio_so", "_law_below_so", "_law_own"], (.cons
  (.set (.name 1) (.bin .mul false (.bin .mul false (.idx (.idx (.var 0) (.int 0)) (.int 1)) (.idx (.idx (.var 0) (.int 1)) (.int 1))) (.idx (.idx (.var 0) (.int 2)) (.int 1))))
  (.cons
  (.ret (.call ln (.cons (.bin .add false (.prim .tuple false (.cons (.comp false [("_law_own", 2)] (.name 2) (.e (.var 0)) .nil (.bin .mul false (.idx (.var 2) (.int 0)) (.bin .fdiv false (.var 1) (.idx (.var 2) (.int 1))))) .nil)) (.tup (.cons (.var 1) .nil))) .nil)))
  .nil)), false⟩
theorem point_of_ok {i ln : Nat} (hi : fs[i]? = some (g_point_of ln)) (hl : fs[ln]? = some g_least_numbers) {a b c d e f : Int} (b0 : 0 < b) (d0 : 0 < d) (f0 : 0 < f) (b1 : b ≤ 1000) (d1 : d ≤ 1000) (f1 : f ≤ 1000) (a1 : a.natAbs ≤ 100000) (c1 : c.natAbs ≤ 100000) (e1 : e.natAbs ≤ 100000) (n : Nat) (st : Sto) :
    callN gs fs (n + 2) i [.tup [.tup [.int a, .int b], .tup [.int c, .int d], .tup [.int e, .int f]]] st = .ok (.tup ((partedL [a * d * f, c * b * f, e * b * d, b * d * f]).map .int)) st := by
  have z0 : 0 < b * d * f := Int.mul_pos (Int.mul_pos b0 d0) f0
  have z1 : b * d * f ≤ 1000 * 1000 * 1000 := Int.mul_le_mul (Int.mul_le_mul b1 d1 (by omega) (by omega)) f1 (by omega) (by omega)
  have od : ∀ x : Int, mulOk x d = true := fun x => mulOk_r (by omega)
  have of : ∀ x : Int, mulOk x f = true := fun x => mulOk_r (by omega)
  have oa : ∀ x : Int, mulOk a x = true := fun x => mulOk_l (by omega)
  have oc : ∀ x : Int, mulOk c x = true := fun x => mulOk_l (by omega)
  have oe : ∀ x : Int, mulOk e x = true := fun x => mulOk_l (by omega)
  have pb := fdivOk_small (j := b) b0 (by omega)
  have pd := fdivOk_small (j := d) d0 (by omega)
  have pf := fdivOk_small (j := f) f0 (by omega)
  have m1 : a * (b * d * f / b) = a * d * f := by rw [Int.mul_assoc b d f, Int.mul_ediv_cancel_left _ (by omega), Int.mul_assoc]
  have m2 : c * (b * d * f / d) = c * b * f := by rw [Int.mul_comm b d, Int.mul_assoc d b f, Int.mul_ediv_cancel_left _ (by omega), Int.mul_assoc]
  have m3 : e * (b * d * f / f) = e * b * d := by rw [Int.mul_ediv_cancel _ (by omega), Int.mul_assoc]
  have ab : ∀ (x y z : Int), x.natAbs ≤ 100000 → 0 < y → y ≤ 1000 → 0 < z → z ≤ 1000 → (x * y * z).natAbs < 18446744073709551616 := fun x y z hx y0 y1 z0 z1 => by
    rw [Int.natAbs_mul, Int.natAbs_mul]
    have : x.natAbs * y.natAbs * z.natAbs ≤ 100000 * 1000 * 1000 := Nat.mul_le_mul (Nat.mul_le_mul hx (by omega)) (by omega)
    omega
  obtain ⟨g0, g1⟩ := gcdl_pos (l := [a * d * f, c * b * f, e * b * d, b * d * f]) (w := b * d * f) (by simp) z0
  have q : callN gs fs (n + 1) ln [.tup [.int (a * d * f), .int (c * b * f), .int (e * b * d), .int (b * d * f)]] st = _ := least_numbers_ok (gs := gs) hl (l := [a * d * f, c * b * f, e * b * d, b * d * f]) (by simp) (by
    intro x hx
    simp only [List.mem_cons, List.not_mem_nil, or_false] at hx
    rcases hx with h | h | h | h <;> subst h
    · exact ab a d f a1 d0 d1 f0 f1
    · exact ab c b f c1 b0 b1 f0 f1
    · exact ab e b d e1 b0 b1 d0 d1
    · omega) g0 (by omega) n st
  rw [call_eq hi rfl]
  simp [g_point_of, evE_var, items, at0, at1, at2, b_mul false (od _), b_mul false (of _), b_mul false (oa _), b_mul false (oc _), b_mul false (oe _), srcOf, wipe, compL_cons, compL_nil, compT, b_fdiv false pb, b_fdiv false pd, b_fdiv false pf, m1, m2, m3, mkL, lineOk, p_tupL, mkT, b_addT, q]
end
end Ev.L

/-! EvL15: a tree in lists; what is heard. -/
namespace Ev.L
open PySem
section
variable {gs : Gv} {fs : List Fn}
def g_lists (i : Nat) : Fn := ⟨"_law_lists", 1, ["_law_matter", "_law_bit"], (.cons
  (.ret (.ite (.isi (.var 0) [.list, .tuple]) (.comp false [("_law_bit", 1)] (.name 1) (.e (.var 0)) .nil (.call i (.cons (.var 1) .nil))) (.var 0)))
  .nil), false⟩
theorem lists_int {i : Nat} (hi : fs[i]? = some (g_lists i)) (a : Int) (n : Nat) (st : Sto) : callN gs fs (n + 1) i [.int a] st = .ok (.int a) st := by
  rw [call_eq hi rfl]
  simp [g_lists, evE_var, tyIs, t_bl]
theorem lists_two {i : Nat} (hi : fs[i]? = some (g_lists i)) (a b : Int) (n : Nat) (st : Sto) : callN gs fs (n + 2) i [.tup [.int a, .int b]] st = .ok (.pl [.int a, .int b]) st := by
  have q : ∀ a, callN gs fs (n + 1) i [.int a] st = .ok (.int a) st := fun a => lists_int hi a n st
  rw [call_eq hi rfl]
  simp [g_lists, evE_var, tyIs, t_bl, srcOf, wipe, compL_cons, compL_nil, compT, q, mkL, lineOk]
theorem lists_pairs {i : Nat} (hi : fs[i]? = some (g_lists i)) (a b c d e f : Int) (n : Nat) (st : Sto) : callN gs fs (n + 3) i [.tup [.tup [.int a, .int b], .tup [.int c, .int d], .tup [.int e, .int f]]] st = .ok (.pl [.pl [.int a, .int b], .pl [.int c, .int d], .pl [.int e, .int f]]) st := by
  have q : ∀ a b, callN gs fs (n + 2) i [.tup [.int a, .int b]] st = .ok (.pl [.int a, .int b]) st := fun a b => lists_two hi a b n st
  rw [call_eq hi rfl]
  simp [g_lists, evE_var, tyIs, t_bl, srcOf, wipe, compL_cons, compL_nil, compT, q, mkL, lineOk]
def g_heard (db : Nat) : Fn := ⟨"_law_heard", 2, ["_law_one_so", "_law_two_so", "error"], (.cons
  (.try_ (.cons
   (.ret (.call db (.cons (.var 0) (.cons (.var 1) .nil))))
   .nil) (.cons 0 (some 2) (.cons
   (.ret (.lst false (.cons (.str [102, 108, 97, 116]) (.cons (.isx (.var 2) true) .nil))))
   .nil) (.cons 1 (some 2) (.cons
   (.ret (.lst false (.cons (.str [117, 110, 102, 105, 116]) (.cons (.isx (.var 2) true) .nil))))
   .nil) .nil)))
  .nil), false⟩
theorem heard_ok {i db : Nat} (hi : fs[i]? = some (g_heard db)) {x y v : PV} (n : Nat) (st : Sto) (h : callN gs fs n db [x, y] st = .ok v st) : callN gs fs (n + 1) i [x, y] st = .ok v st := by
  rw [call_eq hi rfl]
  simp [g_heard, evE_var, h]
theorem heard_flat {i db : Nat} (hi : fs[i]? = some (g_heard db)) {x y : PV} (n : Nat) (st : Sto) (h : callN gs fs n db [x, y] st = .ex 0 none st) : callN gs fs (n + 1) i [x, y] st = .ok (.pl [.str [102, 108, 97, 116], .bl true]) st := by
  rw [call_eq hi rfl]
  simp [g_heard, evE_var, h, evHs, mkL, lineOk]
end
end Ev.L

/-! EvL16: sums and products of fractions, by the laws. -/
namespace Ev.L
open PySem
section
variable {gs : Gv} {fs : List Fn}
def g_sum_of (qu : Nat) : Fn := ⟨"_law_sum_of", 2, ["_law_one_so", "_law_two_so"], (.cons
  (.ret (.call qu (.cons (.bin .add false (.bin .mul false (.idx (.var 0) (.int 0)) (.idx (.var 1) (.int 1))) (.bin .mul false (.idx (.var 1) (.int 0)) (.idx (.var 0) (.int 1)))) (.cons (.bin .mul false (.idx (.var 0) (.int 1)) (.idx (.var 1) (.int 1))) .nil))))
  .nil), false⟩
theorem sum_of_ok {i qu : Nat} (hi : fs[i]? = some (g_sum_of qu)) (hq : fs[qu]? = some g_quot) {a b c d : Int} (b0 : 0 < b) (d0 : 0 < d) (b1 : b.natAbs ≤ 1000000000) (d1 : d.natAbs ≤ 1000000000) (u : (a * d + c * b).natAbs < 18446744073709551616) (n : Nat) (st : Sto) :
    callN gs fs (n + 2) i [.tup [.int a, .int b], .tup [.int c, .int d]] st = .ok (.tup [.int (quotN (a * d + c * b) (b * d)), .int (quotD (a * d + c * b) (b * d))]) st := by
  have ob : ∀ x : Int, mulOk x b = true := fun x => mulOk_r (by omega)
  have od : ∀ x : Int, mulOk x d = true := fun x => mulOk_r (by omega)
  have w0 : 0 < b * d := Int.mul_pos b0 d0
  have w1 : (b * d).natAbs ≤ 1000000000 * 1000000000 := by rw [Int.natAbs_mul]; exact Nat.mul_le_mul b1 d1
  have q := quot_ok (gs := gs) hq u (l := b * d) (by omega) (by omega) n st
  rw [call_eq hi rfl]
  simp [g_sum_of, evE_var, items, at0, at1, b_mul false (ob _), b_mul false (od _), b_add, q]
def g_product_of (qu : Nat) : Fn := ⟨"_law_product_of", 2, ["_law_one_so", "_law_two_so"], (.cons
  (.ret (.call qu (.cons (.bin .mul false (.idx (.var 0) (.int 0)) (.idx (.var 1) (.int 0))) (.cons (.bin .mul false (.idx (.var 0) (.int 1)) (.idx (.var 1) (.int 1))) .nil))))
  .nil), false⟩
theorem product_of_ok {i qu : Nat} (hi : fs[i]? = some (g_product_of qu)) (hq : fs[qu]? = some g_quot) {a b c d : Int} (b0 : 0 < b) (d0 : 0 < d) (b1 : b.natAbs ≤ 1000000000) (d1 : d.natAbs ≤ 1000000000) (a1 : a.natAbs ≤ 1000000000) (c1 : c.natAbs ≤ 1000000000) (n : Nat) (st : Sto) :
    callN gs fs (n + 2) i [.tup [.int a, .int b], .tup [.int c, .int d]] st = .ok (.tup [.int (quotN (a * c) (b * d)), .int (quotD (a * c) (b * d))]) st := by
  have oc : ∀ x : Int, mulOk x c = true := fun x => mulOk_r (by omega)
  have od : ∀ x : Int, mulOk x d = true := fun x => mulOk_r (by omega)
  have w0 : 0 < b * d := Int.mul_pos b0 d0
  have w1 : (b * d).natAbs ≤ 1000000000 * 1000000000 := by rw [Int.natAbs_mul]; exact Nat.mul_le_mul b1 d1
  have v1 : (a * c).natAbs ≤ 1000000000 * 1000000000 := by rw [Int.natAbs_mul]; exact Nat.mul_le_mul a1 c1
  have q := quot_ok (gs := gs) hq (u := a * c) (l := b * d) (by omega) (by omega) (by omega) n st
  rw [call_eq hi rfl]
  simp [g_product_of, evE_var, items, at0, at1, b_mul false (oc _), b_mul false (od _), q]
def g_lack_of (su : Nat) : Fn := ⟨"_law_lack_of", 2, ["_law_one_so", "_law_two_so"], (.cons
  (.ret (.call su (.cons (.var 0) (.cons (.tup (.cons (.bin .sub false (.int 0) (.idx (.var 1) (.int 0))) (.cons (.idx (.var 1) (.int 1)) .nil))) .nil))))
  .nil), false⟩
theorem lack_of_ok {i su qu : Nat} (hi : fs[i]? = some (g_lack_of su)) (hs : fs[su]? = some (g_sum_of qu)) (hq : fs[qu]? = some g_quot) {a b c d : Int} (b0 : 0 < b) (d0 : 0 < d) (b1 : b.natAbs ≤ 1000000000) (d1 : d.natAbs ≤ 1000000000) (u : (a * d + (0 - c) * b).natAbs < 18446744073709551616) (n : Nat) (st : Sto) :
    callN gs fs (n + 3) i [.tup [.int a, .int b], .tup [.int c, .int d]] st = .ok (.tup [.int (quotN (a * d + (0 - c) * b) (b * d)), .int (quotD (a * d + (0 - c) * b) (b * d))]) st := by
  have q := sum_of_ok (gs := gs) hs hq (a := a) (c := 0 - c) b0 d0 b1 d1 u n st
  rw [call_eq hi rfl]
  simp only [Int.zero_sub] at q ⊢
  simp [g_lack_of, evE_var, items, at0, at1, b_sub, mkT, lineOk, q]
end
end Ev.L

/-! EvL17: a parted row of four. -/
namespace Ev.L
open PySem
theorem parted_four {x y z w : Int} (w0 : 0 < w) : ∃ g p q r s : Int, 0 < g ∧ x = g * p ∧ y = g * q ∧ z = g * r ∧ w = g * s ∧ partedL [x, y, z, w] = [p, q, r, s] ∧ gcdl 0 [p, q, r, s] = 1 ∧ 0 < s ∧ s ≤ w := by
  obtain ⟨g0, g1⟩ := gcdl_pos (l := [x, y, z, w]) (w := w) (by simp) w0
  have dx := gcdl_dvd [x, y, z, w] 0 (x := x) (by simp)
  have dy := gcdl_dvd [x, y, z, w] 0 (x := y) (by simp)
  have dz := gcdl_dvd [x, y, z, w] 0 (x := z) (by simp)
  have dw := gcdl_dvd [x, y, z, w] 0 (x := w) (by simp)
  have ex := Int.mul_ediv_cancel' dx
  have ey := Int.mul_ediv_cancel' dy
  have ez := Int.mul_ediv_cancel' dz
  have ew := Int.mul_ediv_cancel' dw
  have s0 : 0 < w / gcdl 0 [x, y, z, w] := Int.pos_of_mul_pos_right (by rw [ew]; exact w0) (by omega)
  refine ⟨gcdl 0 [x, y, z, w], x / gcdl 0 [x, y, z, w], y / gcdl 0 [x, y, z, w], z / gcdl 0 [x, y, z, w], w / gcdl 0 [x, y, z, w], g0, ex.symm, ey.symm, ez.symm, ew.symm, rfl, ?_, s0, ?_⟩
  · have k := gcdl_scale (gcdl 0 [x, y, z, w]).toNat [x / gcdl 0 [x, y, z, w], y / gcdl 0 [x, y, z, w], z / gcdl 0 [x, y, z, w], w / gcdl 0 [x, y, z, w]] 0 (by omega)
    rw [Int.toNat_of_nonneg (by omega), Int.mul_zero] at k
    simp only [List.map_cons, List.map_nil, ex, ey, ez, ew] at k
    exact (Int.eq_of_mul_eq_mul_left (a := gcdl 0 [x, y, z, w]) (by omega) ((Int.mul_one _).trans k)).symm
  · exact Int.le_of_dvd w0 ⟨gcdl 0 [x, y, z, w], by rw [Int.mul_comm]; exact ew.symm⟩
end Ev.L

/-! EvL18: rows that are the same point. -/
namespace Ev.L
open PySem
theorem nab {x y : Int} {A B : Nat} (hx : x.natAbs ≤ A) (hy : y.natAbs ≤ B) : (x * y).natAbs ≤ A * B := by
  rw [Int.natAbs_mul]; exact Nat.mul_le_mul hx hy
theorem nabs {x y : Int} {A B : Nat} (hx : x.natAbs ≤ A) (hy : y.natAbs ≤ B) : (x + y).natAbs ≤ A + B := by omega
theorem nabd {x y : Int} {A B : Nat} (hx : x.natAbs ≤ A) (hy : y.natAbs ≤ B) : (x - y).natAbs ≤ A + B := by omega
theorem can {g a b : Int} (h : g ≠ 0) (e : g * a = g * b) : a = b := Int.eq_of_mul_eq_mul_left h e
theorem quot_rt {u l : Int} (h : l ≠ 0) : quotN u l * l = u * quotD u l := by
  have a := quot_num (u := u) h
  have b := quot_den (u := u) h
  have g := gcdI_pos (u := u) h
  refine can (g := gcdI u l) (by omega) ?_
  have s : sgnI l * l = l * sgnI l := Int.mul_comm _ _
  calc gcdI u l * (quotN u l * l) = sgnI l * u * l := by rw [← Int.mul_assoc, a]
    _ = u * (sgnI l * l) := by grind
    _ = gcdI u l * (u * quotD u l) := by rw [← b]; grind
theorem parted4_eq {x y z w x' y' z' w' : Int} (w0 : 0 < w) (w1 : 0 < w') (h1 : x * w' = x' * w) (h2 : y * w' = y' * w) (h3 : z * w' = z' * w) : partedL [x, y, z, w] = partedL [x', y', z', w'] := by
  refine parted_eq (m := w.toNat) (n := w'.toNat) (by omega) (by omega) ?_
  have e : (w.toNat : Int) = w := by omega
  have e' : (w'.toNat : Int) = w' := by omega
  rw [e, e']
  simp only [List.map_cons, List.map_nil]
  rw [Int.mul_comm w' x, Int.mul_comm w' y, Int.mul_comm w' z, Int.mul_comm w x', Int.mul_comm w y', Int.mul_comm w z', h1, h2, h3, Int.mul_comm w' w]
theorem near_facts {a b c d e f : Int} (b0 : 0 < b) (d0 : 0 < d) (f0 : 0 < f) : ∃ p q r s : Int, partedL [a * d * f, c * b * f, e * b * d, b * d * f] = [p, q, r, s] ∧ gcdl 0 [p, q, r, s] = 1 ∧ 0 < s ∧ s ≤ b * d * f ∧ p * b = a * s ∧ q * d = c * s ∧ r * f = e * s := by
  obtain ⟨g, p, q, r, s, g0, e1, e2, e3, e4, h, k, s0, s1⟩ := parted_four (x := a * d * f) (y := c * b * f) (z := e * b * d) (w := b * d * f) (Int.mul_pos (Int.mul_pos b0 d0) f0)
  refine ⟨p, q, r, s, h, k, s0, s1, can (g := g) (by omega) ?_, can (g := g) (by omega) ?_, can (g := g) (by omega) ?_⟩
  · rw [← Int.mul_assoc, ← e1, Int.mul_left_comm, ← e4]; grind
  · rw [← Int.mul_assoc, ← e2, Int.mul_left_comm, ← e4]; grind
  · rw [← Int.mul_assoc, ← e3, Int.mul_left_comm, ← e4]; grind
theorem rt_abs {p b a s : Int} {A S : Nat} (b0 : 0 < b) (h : p * b = a * s) (ha : a.natAbs ≤ A) (hs : s.natAbs ≤ S) : p.natAbs ≤ A * S := by
  have e := congrArg Int.natAbs h
  rw [Int.natAbs_mul, Int.natAbs_mul] at e
  calc p.natAbs ≤ p.natAbs * b.natAbs := Nat.le_mul_of_pos_right _ (by omega)
    _ = a.natAbs * s.natAbs := e
    _ ≤ A * S := Nat.mul_le_mul ha hs
/-- place: told back -/
theorem place_back {p s a b : Int} (s0 : 0 < s) (L : Low a b) (h : p * b = a * s) : quotN p s = a ∧ quotD p s = b := by
  have q := quot_rt (u := p) (l := s) (by omega)
  have l := quot_low (u := p) (l := s) (by omega)
  refine low_unique l L ?_
  refine can (g := s) (by omega) ?_
  have e : s * (quotN p s * b) = (quotN p s * s) * b := by grind
  rw [e, q]
  calc p * quotD p s * b = (p * b) * quotD p s := by grind
    _ = s * (a * quotD p s) := by rw [h]; grind
/-- one place of a moved point -/
theorem moved_one {p s a b a' b' A B : Int} (b0 : 0 < b) (h : p * b = a * s) (k : A * (b' * b) = (a' * b + (0 - a) * b') * B) : (p * B + A * s) * b' = a' * (s * B) := by
  refine can (g := b) (by omega) ?_
  have e1 : b * ((p * B + A * s) * b') = (p * b) * (B * b') + s * (A * (b' * b)) := by grind
  rw [e1, h, k]
  grind
end Ev.L
namespace Ev.L
open PySem
theorem moved_row {p q r s A B C D E F x1 y1 x2 y2 x3 y3 : Int} (s0 : 0 < s) (B0 : 0 < B) (D0 : 0 < D) (F0 : 0 < F) (k1 : 0 < y1) (k2 : 0 < y2) (k3 : 0 < y3) (h1 : (p * B + A * s) * y1 = x1 * (s * B)) (h2 : (q * D + C * s) * y2 = x2 * (s * D)) (h3 : (r * F + E * s) * y3 = x3 * (s * F)) :
    partedL [p * (B * D * F) + A * D * F * s, q * (B * D * F) + C * B * F * s, r * (B * D * F) + E * B * D * s, s * (B * D * F)] = partedL [x1 * y2 * y3, x2 * y1 * y3, x3 * y1 * y2, y1 * y2 * y3] := by
  have z0 : 0 < B * D * F := Int.mul_pos (Int.mul_pos B0 D0) F0
  refine parted4_eq (Int.mul_pos s0 z0) (Int.mul_pos (Int.mul_pos k1 k2) k3) ?_ ?_ ?_
  · have e : (p * (B * D * F) + A * D * F * s) * (y1 * y2 * y3) = (D * F * y2 * y3) * ((p * B + A * s) * y1) := by grind
    rw [e, h1]; grind
  · have e : (q * (B * D * F) + C * B * F * s) * (y1 * y2 * y3) = (B * F * y1 * y3) * ((q * D + C * s) * y2) := by grind
    rw [e, h2]; grind
  · have e : (r * (B * D * F) + E * B * D * s) * (y1 * y2 * y3) = (B * D * y1 * y2) * ((r * F + E * s) * y3) := by grind
    rw [e, h3]; grind
theorem half_row {p q r s p' q' r' s' x1 y1 x2 y2 x3 y3 : Int} (s0 : 0 < s) (s1 : 0 < s') (k1 : 0 < y1) (k2 : 0 < y2) (k3 : 0 < y3) (h1 : (p * s' + p' * s) * y1 = x1 * (2 * s * s')) (h2 : (q * s' + q' * s) * y2 = x2 * (2 * s * s')) (h3 : (r * s' + r' * s) * y3 = x3 * (2 * s * s')) :
    partedL [p * s' + p' * s, q * s' + q' * s, r * s' + r' * s, 2 * s * s'] = partedL [x1 * y2 * y3, x2 * y1 * y3, x3 * y1 * y2, y1 * y2 * y3] := by
  refine parted4_eq (Int.mul_pos (Int.mul_pos (by omega) s0) s1) (Int.mul_pos (Int.mul_pos k1 k2) k3) ?_ ?_ ?_
  · have e : (p * s' + p' * s) * (y1 * y2 * y3) = (y2 * y3) * ((p * s' + p' * s) * y1) := by grind
    rw [e, h1]; grind
  · have e : (q * s' + q' * s) * (y1 * y2 * y3) = (y1 * y3) * ((q * s' + q' * s) * y2) := by grind
    rw [e, h2]; grind
  · have e : (r * s' + r' * s) * (y1 * y2 * y3) = (y1 * y2) * ((r * s' + r' * s) * y3) := by grind
    rw [e, h3]; grind
/-- a sum of fractions, over one number below -/
theorem add_rt {m n p q u v w x y : Int} (n0 : 0 < n) (q0 : 0 < q) (h1 : m * w = x * n) (h2 : p * w = y * q) (k : u * (n * q) = (m * q + p * n) * v) : u * w = (x + y) * v := by
  have z := Int.mul_pos n0 q0
  refine can (g := n * q) (by omega) ?_
  have e : n * q * (u * w) = w * (u * (n * q)) := by grind
  rw [e, k]
  have e2 : w * ((m * q + p * n) * v) = ((m * w) * q + (p * w) * n) * v := by grind
  rw [e2, h1, h2]; grind
theorem mul_rt {a b w x u v : Int} (b0 : 0 < b) (h : a * w = x * b) (k : u * (b * b) = (a * a) * v) : u * (w * w) = (x * x) * v := by
  have z := Int.mul_pos b0 b0
  refine can (g := b * b) (by omega) ?_
  have e : b * b * (u * (w * w)) = (w * w) * (u * (b * b)) := by grind
  rw [e, k]
  have e2 : w * w * (a * a * v) = ((a * w) * (a * w)) * v := by grind
  rw [e2, h]; grind
/-- the way between two places, beside the lack -/
theorem way_one {p s a b p' s' a' b' A B : Int} (b0 : 0 < b) (b1 : 0 < b') (h : p * b = a * s) (h' : p' * b' = a' * s') (k : A * (b' * b) = (a' * b + (0 - a) * b') * B) : (p' * s - p * s') * B = A * (s * s') := by
  have z := Int.mul_pos b1 b0
  refine can (g := b' * b) (by omega) ?_
  have e : b' * b * ((p' * s - p * s') * B) = ((p' * b') * (s * b) - (p * b) * (s' * b')) * B := by grind
  rw [e, h, h']
  have e2 : b' * b * (A * (s * s')) = (A * (b' * b)) * (s * s') := by grind
  rw [e2, k]; grind
theorem half_one {p s a b p' s' a' b' U V : Int} (b0 : 0 < b) (b1 : 0 < b') (h : p * b = a * s) (h' : p' * b' = a' * s') (k : U * (b * b') = (a * b' + a' * b) * V) : (p * s' + p' * s) * V = U * (s * s') := by
  have z := Int.mul_pos b0 b1
  refine can (g := b * b') (by omega) ?_
  have e : b * b' * ((p * s' + p' * s) * V) = ((p * b) * (b' * s') + (p' * b') * (b * s)) * V := by grind
  rw [e, h, h']
  have e2 : b * b' * (U * (s * s')) = (U * (b * b')) * (s * s') := by grind
  rw [e2, k]; grind
theorem sum_one {p s a b a' b' U V : Int} (b0 : 0 < b) (h : p * b = a * s) (k : U * (b * b') = (a * b' + a' * b) * V) : (p * b' + a' * s) * V = U * (s * b') := by
  refine can (g := b) (by omega) ?_
  have e : b * ((p * b' + a' * s) * V) = ((p * b) * b' + a' * b * s) * V := by grind
  rw [e, h]
  have e2 : b * (U * (s * b')) = (U * (b * b')) * s := by grind
  rw [e2, k]; grind
theorem gcdl_ne {l : List Int} {w : Int} (m : w ∈ l) (h : w ≠ 0) : 0 < gcdl 0 l ∧ gcdl 0 l ≤ w.natAbs := by
  have d := gcdl_dvd l 0 m
  have n := gcdl_nonneg l 0 (by omega)
  have d2 : gcdl 0 l ∣ (w.natAbs : Int) := Int.dvd_natAbs.mpr d
  refine ⟨?_, Int.le_of_dvd (by omega) d2⟩
  rcases Int.lt_or_eq_of_le n with a | a
  · exact a
  · rw [← a] at d
    have := Int.zero_dvd.mp d
    omega
theorem parted3_eq {x y z w x' y' z' w' : Int} (w0 : 0 < w) (w1 : 0 < w') (h1 : x * w' = x' * w) (h2 : y * w' = y' * w) (h3 : z * w' = z' * w) : partedL [x, y, z] = partedL [x', y', z'] := by
  refine parted_eq (m := w.toNat) (n := w'.toNat) (by omega) (by omega) ?_
  have e : (w.toNat : Int) = w := by omega
  have e' : (w'.toNat : Int) = w' := by omega
  rw [e, e']
  simp only [List.map_cons, List.map_nil]
  rw [Int.mul_comm w' x, Int.mul_comm w' y, Int.mul_comm w' z, Int.mul_comm w x', Int.mul_comm w y', Int.mul_comm w z', h1, h2, h3]
end Ev.L

/-! EvL19: things that are no point. -/
namespace Ev.L
open PySem
section
variable {gs : Gv} {fs : List Fn}
theorem bools_map {α : Type} (f : α → Bool) (l : List α) : boolsV (l.map fun x => .bl (f x)) = some (l.map f) := by
  induction l with
  | nil => rfl
  | cons x l ih =>
    rw [List.map_cons, boolsV, ih] <;> rfl
theorem p_allB {α : Type} (m : Bool) (st : Sto) (f : α → Bool) (l : List α) : prim m st .all [.pl (l.map fun x => .bl (f x))] = .ok (.bl (l.all f)) st := by
  show (match boolsV (l.map fun x => .bl (f x)) with | some bs => _ | none => _) = _
  rw [bools_map]
  show R.ok (PV.bl ((l.map f).all id)) st = _
  have : ((l.map f).all id) = l.all f := by simp [List.all_map]
  rw [this]
theorem p_anyB {α : Type} (m : Bool) (st : Sto) (f : α → Bool) (l : List α) : prim m st .any [.pl (l.map fun x => .bl (f x))] = .ok (.bl (l.any f)) st := by
  show (match boolsV (l.map fun x => .bl (f x)) with | some bs => _ | none => _) = _
  rw [bools_map]
  show R.ok (PV.bl ((l.map f).any id)) st = _
  have : ((l.map f).any id) = l.any f := by simp [List.any_map]
  rw [this]
def isRow : PV → Int → Bool
  | .tup xs, k => decide ((xs.length : Int) = k) && xs.all isI
  | _, _ => false
theorem is_row_any {i il nu : Nat} (hi : fs[i]? = some (g_is_row il nu)) (h1 : fs[il]? = some g_is_long) (h2 : fs[nu]? = some g_is_number) (v : PV) (hv : data v = true) (hx : ∀ xs, v = .tup xs → xs.length ≤ 1000 ∧ ∀ x ∈ xs, data x = true) (k : Int) (n : Nat) (st : Sto) :
    callN gs fs (n + 2) i [v, .int k] st = .ok (.bl (isRow v k)) st := by
  rw [call_eq hi rfl]
  have q1 := is_long_ok (gs := gs) h1 v k hv n st
  cases v with
  | tup xs =>
    obtain ⟨hl, hd⟩ := hx xs rfl
    have c : ∀ p0 p1, compL (callN gs fs (n + 1)) gs (arOf fs) [] (.name 2) .nil (.call nu (.cons (.var 2) .nil)) [p0, p1, none] xs st = .ok (xs.map fun x => .bl (isI x)) st := fun p0 p1 =>
      compL_pure _ _ fun x mx => by
        have q2 := is_number_ok (gs := gs) h2 x (hd x mx) n st
        simp [compT, evE_var, q2]
    have o : lineOk (xs.map fun x => PV.bl (isI x)) = true := lineOk_le (by simp; exact hl)
    have pa := p_allB false st isI xs
    by_cases h : (xs.length : Int) = k
    · subst h
      simp [g_is_row, evE_var, q1, isLong, t_bl, srcOf, wipe, c, mkL, o, pa, isRow]
    · simp [g_is_row, evE_var, q1, isLong, h, t_bl, isRow]
  | _ => simp [g_is_row, evE_var, q1, isLong, t_bl, isRow]
theorem is_point_no {i rw_ il nu fr dv : Nat} (hi : fs[i]? = some (g_is_point rw_ fr dv)) (h0 : fs[rw_]? = some (g_is_row il nu)) (h1 : fs[il]? = some g_is_long) (h2 : fs[nu]? = some g_is_number) (v : PV) (hv : data v = true) (hx : ∀ xs, v = .tup xs → xs.length ≤ 1000 ∧ ∀ x ∈ xs, data x = true) (no : isRow v 4 = false) (n : Nat) (st : Sto) :
    callN gs fs (n + 3) i [v] st = .ok (.bl false) st := by
  rw [call_eq hi rfl]
  have q := is_row_any (gs := gs) h0 h1 h2 v hv hx 4 n st
  rw [no] at q
  simp [g_is_point, evE_var, q, t_bl]
theorem same_refl : ∀ v : PV, same v v = true := by
  intro v
  refine PV.rec (motive_1 := fun v => same v v = true) (motive_2 := fun l => sames l l = true) ?_ ?_ ?_ ?_ ?_ ?_ ?_ ?_ ?_ ?_ ?_ ?_ ?_ ?_ v <;> intros <;> simp_all [same, sames]
theorem sames_refl (l : List PV) : sames l l = true := by
  induction l with
  | nil => rfl
  | cons x l ih => simp [sames, same_refl, ih]
theorem forL_nil {cl : Cl} {ar : Nat → Nat} {ks : List (Nat × List PV)} {t : Tg} {b : Ss} {e : Env} {st : Sto} : forL cl gs ar ks t b [] e st = .next e st := rfl
/-- one turn of a for, in simp -/
theorem forL_unr {cl : Cl} {ar : Nat → Nat} {ks : List (Nat × List PV)} {t : Tg} {b : Ss} (x : PV) (xs : List PV) (e : Env) (st : Sto) : forL cl gs ar ks t b (x :: xs) e st = match asg cl gs ar t x e st with
    | .ok e1 st => (match evSs cl gs ar b e1 st with
      | .next env st => if keeps st ks then forL cl gs ar ks t b xs env st else .bad
      | .cnt env st => if keeps st ks then forL cl gs ar ks t b xs env st else .bad
      | .brk env st => .next env st
      | r => r)
    | .ex k a st => .ex k a e st
    | .bad => .bad := rfl
end
end Ev.L

/-! EvL20: a body, statement by statement. -/
namespace Ev.L
open PySem
theorem up {a b c : Int} (h : a ≤ b) (k : b ≤ c := by decide) : a ≤ c := Int.le_trans h k
theorem un {a b c : Nat} (h : a ≤ b) (k : b ≤ c := by decide) : a ≤ c := Nat.le_trans h k
theorem half_mid {b b' s s' p p' a a' U V M N : Int} (b0 : 0 < b) (b0' : 0 < b') (v0 : 0 < V) (hp : p * b = a * s) (hp' : p' * b' = a' * s') (J : U * (b * b') = (a * b' + a' * b) * V) (Z : M * (2 * V) = U * N) : (p * s' + p' * s) * N = M * (2 * s * s') := by
  have h := half_one b0 b0' hp hp' J
  refine can (g := V) (by omega) ?_
  have k1 : V * ((p * s' + p' * s) * N) = ((p * s' + p' * s) * V) * N := by grind
  have k2 : V * (M * (2 * s * s')) = (M * (2 * V)) * (s * s') := by grind
  rw [k1, k2, h, Z]; grind
theorem half_turn {p p' s s' M N : Int} (h : (p * s' + p' * s) * N = M * (2 * s * s')) : (p' * s + p * s') * N = M * (2 * s' * s) := by
  rw [Int.add_comm, h]; grind
theorem square_mid {A1 B1 A2 B2 A3 B3 X Y Z W P1 Q1 P2 Q2 P3 Q3 U1 V1 U2 V2 U3 V3 : Int} (b1 : 0 < B1) (b2 : 0 < B2) (b3 : 0 < B3) (q1 : 0 < Q1) (q2 : 0 < Q2) (q3 : 0 < Q3) (v1 : 0 < V1) (v2 : 0 < V2)
    (hx : X * B1 = A1 * W) (hy : Y * B2 = A2 * W) (hz : Z * B3 = A3 * W) (h1 : P1 * (B1 * B1) = (A1 * A1) * Q1) (h2 : P2 * (B2 * B2) = (A2 * A2) * Q2) (h3 : P3 * (B3 * B3) = (A3 * A3) * Q3)
    (k1 : U1 * (1 * Q1) = (0 * Q1 + P1 * 1) * V1) (k2 : U2 * (V1 * Q2) = (U1 * Q2 + P2 * V1) * V2) (k3 : U3 * (V2 * Q3) = (U2 * Q3 + P3 * V2) * V3) : U3 * (W * W) = (X * X + Y * Y + Z * Z) * V3 := by
  have e1 := mul_rt b1 hx.symm h1
  have e2 := mul_rt b2 hy.symm h2
  have e3 := mul_rt b3 hz.symm h3
  have f1 := add_rt (m := 0) (n := 1) (w := W * W) (x := 0) (by decide) q1 (by omega) e1 k1
  rw [Int.zero_add] at f1
  have f2 := add_rt v1 q2 f1 e2 k2
  exact add_rt v2 q3 f2 e3 k3
theorem point_same {p q r s p' q' r' s' : Int} (s0 : 0 < s) (s0' : 0 < s') (g : gcdl 0 [p, q, r, s] = 1) (g' : gcdl 0 [p', q', r', s'] = 1) (h1 : p' * s - p * s' = 0) (h2 : q' * s - q * s' = 0) (h3 : r' * s - r * s' = 0) : p = p' ∧ q = q' ∧ r = r' ∧ s = s' := by
  have e := parted4_eq s0 s0' (x := p) (y := q) (z := r) (x' := p') (y' := q') (z' := r') (by omega) (by omega) (by omega)
  rw [parted_one g, parted_one g'] at e
  simpa using e
theorem gcd3 {x y z : Int} {B : Nat} (h : ¬ (x = 0 ∧ y = 0 ∧ z = 0)) (hx : x.natAbs ≤ B) (hy : y.natAbs ≤ B) (hz : z.natAbs ≤ B) : 0 < gcdl 0 [x, y, z] ∧ gcdl 0 [x, y, z] ≤ B := by
  by_cases h1 : x = 0
  · by_cases h2 : y = 0
    · have h3 : z ≠ 0 := fun h3 => h ⟨h1, h2, h3⟩
      have k := gcdl_ne (l := [x, y, z]) (w := z) (by simp) h3
      exact ⟨k.1, by omega⟩
    · have k := gcdl_ne (l := [x, y, z]) (w := y) (by simp) h2
      exact ⟨k.1, by omega⟩
  · have k := gcdl_ne (l := [x, y, z]) (w := x) (by simp) h1
    exact ⟨k.1, by omega⟩
theorem way_rows {X Y Z W A1 B1 A2 B2 A3 B3 : Int} (w0 : 0 < W) (b1 : 0 < B1) (b2 : 0 < B2) (b3 : 0 < B3) (hx : X * B1 = A1 * W) (hy : Y * B2 = A2 * W) (hz : Z * B3 = A3 * W) : partedL [X, Y, Z] = partedL [A1 * (B1 * B2 * B3 / B1), A2 * (B1 * B2 * B3 / B2), A3 * (B1 * B2 * B3 / B3)] ∧
    (¬ (X = 0 ∧ Y = 0 ∧ Z = 0) → ¬ (A1 * (B1 * B2 * B3 / B1) = 0 ∧ A2 * (B1 * B2 * B3 / B2) = 0 ∧ A3 * (B1 * B2 * B3 / B3) = 0)) := by
  have m1 : B1 * B2 * B3 / B1 = B2 * B3 := by rw [Int.mul_assoc, Int.mul_ediv_cancel_left _ (by omega)]
  have m2 : B1 * B2 * B3 / B2 = B1 * B3 := by rw [Int.mul_comm B1 B2, Int.mul_assoc, Int.mul_ediv_cancel_left _ (by omega)]
  have m3 : B1 * B2 * B3 / B3 = B1 * B2 := by rw [Int.mul_ediv_cancel _ (by omega)]
  rw [m1, m2, m3]
  have b0 : 0 < B1 * B2 * B3 := Int.mul_pos (Int.mul_pos b1 b2) b3
  have k1 : X * (B1 * B2 * B3) = A1 * (B2 * B3) * W := by
    have e : X * (B1 * B2 * B3) = (X * B1) * (B2 * B3) := by grind
    rw [e, hx]; grind
  have k2 : Y * (B1 * B2 * B3) = A2 * (B1 * B3) * W := by
    have e : Y * (B1 * B2 * B3) = (Y * B2) * (B1 * B3) := by grind
    rw [e, hy]; grind
  have k3 : Z * (B1 * B2 * B3) = A3 * (B1 * B2) * W := by
    have e : Z * (B1 * B2 * B3) = (Z * B3) * (B1 * B2) := by grind
    rw [e, hz]; grind
  refine ⟨parted3_eq w0 b0 k1 k2 k3, fun h ⟨z1, z2, z3⟩ => h ?_⟩
  rw [z1, Int.zero_mul] at k1
  rw [z2, Int.zero_mul] at k2
  rw [z3, Int.zero_mul] at k3
  refine ⟨?_, ?_, ?_⟩
  · exact (Int.mul_eq_zero.mp k1).resolve_right (by omega)
  · exact (Int.mul_eq_zero.mp k2).resolve_right (by omega)
  · exact (Int.mul_eq_zero.mp k3).resolve_right (by omega)
theorem pos_abs {a B : Int} (h : 0 < a) (k : a ≤ B) : a.natAbs ≤ B.toNat := by omega
theorem Tin.below {K : Nat} {h : List PV} (t : Tin K h) (n : Nat) : belows n h = true := by
  obtain ⟨a, b, c, rfl, _⟩ := t
  rfl
end Ev.L

/-! EvL21: loops that may stop; what stands last in the store. -/
namespace Ev.L
open PySem
section
variable {cl : Cl} {gs : Gv} {ar : Nat → Nat} {fs : List Fn}
/-- a for whose turns may return -/
theorem forL_find {t : Tg} {b : Ss} {st : Sto} (Q : Env → Prop) (f : PV → Option PV) (xs : List PV)
    (step : ∀ x ∈ xs, ∀ e, Q e → ∃ e1, asg cl gs ar t x e st = .ok e1 st ∧ ((∀ v, f x = some v → evSs cl gs ar b e1 st = .ret v st) ∧ (f x = none → ∃ e2, evSs cl gs ar b e1 st = .next e2 st ∧ Q e2))) :
    ∀ (e : Env), Q e → (∀ v, xs.findSome? f = some v → forL cl gs ar [] t b xs e st = .ret v st) ∧ (xs.findSome? f = none → ∃ e', forL cl gs ar [] t b xs e st = .next e' st ∧ Q e') := by
  induction xs with
  | nil => exact fun e q => ⟨fun v h => (by cases h), fun _ => ⟨e, rfl, q⟩⟩
  | cons x xs ih =>
    intro e q
    obtain ⟨e1, h1, h2, h3⟩ := step x (by simp) e q
    have ih := ih fun y hy => step y (by simp [hy])
    rw [forL_unr, h1]
    cases hf : f x with
    | some v =>
      rw [List.findSome?_cons, hf]
      refine ⟨fun w hw => ?_, fun hn => (by cases hn)⟩
      cases hw
      simp [h2 v hf]
    | none =>
      obtain ⟨e2, h4, h5⟩ := h3 hf
      rw [List.findSome?_cons, hf]
      simp only [h4, keeps_nil, if_true]
      exact ih e2 h5
theorem upto_map (n : Int) : ∀ (k : Nat) (i : Int), upto n k i = (List.range k).map fun j => .int (i + (j : Nat))
  | 0, _ => rfl
  | k + 1, i => by
    rw [upto, upto_map n k (i + 1), List.range_succ_eq_map, List.map_cons, List.map_map]
    congr 1
    · simp
    · apply List.map_congr_left
      intro j _
      show PV.int _ = PV.int _
      congr 1
      show i + 1 + (j : Int) = i + ((j + 1 : Nat) : Int)
      omega
theorem get_last (h : List PV) (r : Sto) (xs : List PV) : (h :: (r ++ [xs]))[r.length + 1]? = some xs := by simp
theorem set_last (h : List PV) (r : Sto) (xs ys : List PV) : (h :: (r ++ [xs])).set (r.length + 1) ys = h :: (r ++ [ys]) := by simp
theorem len_last (h : List PV) (r : Sto) (xs : List PV) : (h :: (r ++ [xs])).length = r.length + 2 := by simp
theorem kp_one {st : Sto} {i : Nat} {xs : List PV} (h : st[i]? = some xs) : keeps st [(i, xs)] = true := by simp [keeps, h, sames_refl]
/-- a comprehension over a list of the store whose turns leave the store as it is -/
theorem compL_keep {t : Tg} {cond : Es} {elt : E} {st : Sto} {env : Env} {ks : List (Nat × List PV)} (hk : keeps st ks = true) (g : PV → PV) : ∀ xs : List PV, (∀ x ∈ xs, compT cl gs ar t cond elt env x st = .ok (some (g x)) st) → compL cl gs ar ks t cond elt env xs st = .ok (xs.map g) st
  | [], _ => rfl
  | x :: xs, h => by
    have q := compL_keep hk g xs fun y hy => h y (by simp [hy])
    rw [compL_cons, h x (by simp)]
    simp [hk, q]
/-- a list of the store held against the same list -/
theorem same_ml {i : Nat} (hi : fs[i]? = some (g_same i)) {d : Nat} {xs : List PV} (h : tree (d + 1) (.pl xs) = true) {j : Nat} {st : Sto} (hj : st[j]? = some xs) (n : Nat) (hn : d + 1 < n) : callN gs fs n i [.ml j, .pl xs] st = .ok (.bl true) st := by
  obtain ⟨m, rfl⟩ : ∃ k, n = k + 1 := ⟨n - 1, by omega⟩
  rw [call_eq hi rfl]
  obtain ⟨h1, h2⟩ := Bool.and_eq_true_iff.mp h
  have h3 : lineOk ((zipT xs xs).map fun _ => PV.bl true) = true := by simpa [lineOk, zip_len] using h1
  have turn : ∀ (p0 p1 : Option PV), compL (callN gs fs m) gs (arOf fs) [(j, xs)] (.tup (.cons (.name 2) (.cons (.name 3) .nil))) .nil (.call i (.cons (.var 2) (.cons (.var 3) .nil))) [p0, p1, none, none] (zipT xs xs) st =
      .ok ((zipT xs xs).map fun _ => .bl true) st := fun p0 p1 => compL_keep (kp_one hj) (fun _ => .bl true) (zipT xs xs) fun z hz => by
    obtain ⟨x, mx, rfl⟩ := mem_zip hz
    have q := same_ok (gs := gs) hi d x (List.all_eq_true.mp h2 x mx) m st (by omega)
    simp [compT, items, Tgs.len, evE_var, q]
  have len : prim false st .len [.ml j] = .ok (.int (xs.length : Nat)) st := by
    show (match items st (.ml j) with | some xs => _ | none => _) = _
    show (match st[j]? with | some xs => _ | none => _) = _
    rw [hj] <;> rfl
  simp [g_same, evE_var, tyIs, t_bl, c_neB, c_eqB, c_eq, p_lenL, len, wipe, srcOf, hj, turn _ _, mkL, h3, p_all]
/-- two ways to say one fraction -/
theorem quot_eq {u l u' l' : Int} (l0 : 0 < l) (l0' : 0 < l') (h : u * l' = u' * l) : quotN u l = quotN u' l' ∧ quotD u l = quotD u' l' := by
  have q := quot_rt (u := u) (l := l) (by omega)
  have q' := quot_rt (u := u') (l := l') (by omega)
  refine low_unique (quot_low (by omega)) (quot_low (by omega)) (can (g := l * l') (by have := Int.mul_pos l0 l0'; omega) ?_)
  have e1 : l * l' * (quotN u l * quotD u' l') = (quotN u l * l) * (l' * quotD u' l') := by grind
  have e2 : l * l' * (quotN u' l' * quotD u l) = (quotN u' l' * l') * (l * quotD u l) := by grind
  rw [e1, e2, q, q']
  have e3 : u * quotD u l * (l' * quotD u' l') = (u * l') * (quotD u l * quotD u' l') := by grind
  rw [e3, h]; grind
theorem quot_back {u l a b : Int} (l0 : l ≠ 0) (L : Low a b) (h : u * b = a * l) : quotN u l = a ∧ quotD u l = b := by
  have q := quot_rt (u := u) (l := l) l0
  refine low_unique (quot_low l0) L (can (g := l) l0 ?_)
  have e : l * (quotN u l * b) = (quotN u l * l) * b := by grind
  rw [e, q]
  calc u * quotD u l * b = (u * b) * quotD u l := by grind
    _ = l * (a * quotD u l) := by rw [h]; grind
theorem meth_app {st : Sto} {i : Nat} {xs : List PV} {x : PV} (h : st[i]? = some xs) (hl : xs.length < 1000) : meth st .append (.ml i) [x] = .ok .non (st.set i (xs ++ [x])) := by
  show (match st[i]? with | some xs => _ | none => _) = _
  rw [h]
  show (if decide (xs.length < 16777216) = true then _ else _) = _
  rw [if_pos (by simp; omega)] <;> rfl
theorem addLt (st : Sto) (i : Nat) (xs ys : List PV) (hi : st[i]? = some xs) (o : xs.length + ys.length ≤ 1000) : binop true st .add (.ml i) (.pl ys) = .ok (.ml st.length) (st ++ [xs ++ ys]) := by
  have o : lineOk (xs ++ ys) = true := lineOk_le (by simpa using o)
  show (match st[i]?, some ys with | some a, some b => mkL true (a ++ b) st | _, _ => .bad) = _
  rw [hi]
  show mkL true (xs ++ ys) st = _
  rw [mkL, o] <;> rfl
theorem addMl (st : Sto) (i : Nat) (xs ys : List PV) (hi : st[i]? = some xs) (o : xs.length + ys.length ≤ 1000) : binop false st .add (.ml i) (.pl ys) = .ok (.pl (xs ++ ys)) st := by
  have o : lineOk (xs ++ ys) = true := lineOk_le (by simpa using o)
  show (match st[i]?, some ys with | some a, some b => mkL false (a ++ b) st | _, _ => .bad) = _
  rw [hi]
  show mkL false (xs ++ ys) st = _
  rw [mkL, o] <;> rfl
@[simp] theorem ev_stp (m : Bool) (a : E) (lo hi sp : Es) {env : Env} {st : Sto} : evE cl gs ar (.stp m a lo hi sp) env st = (evE cl gs ar a env st).bind fun x st => (evOp cl gs ar lo env st).bind fun l st => (evOp cl gs ar hi env st).bind fun h st => (evOp cl gs ar sp env st).bind fun p st =>
    match x with
    | .tup _ => .bad
    | x => match items st x with
      | some xs => if p = some 0 then .bad else mkL m (pick (stpI xs.length l h p) xs) st
      | none => .bad := by rw [evE] <;> rfl
theorem rev_pick {α : Type} (xs : List α) : pick (stpI xs.length none none (some (-1))) xs = xs.reverse := by
  unfold pick stpI
  rw [PySem.W.krv_bounds]
  show (sliceRange ((xs.length : Int) - 1) (-1) (-1)).filterMap (xs[·]?) = _
  rw [PySem.W.krv_sliceRange, PySem.W.krv_range, List.filterMap_reverse]
  congr 1
  induction xs with
  | nil => rfl
  | cons x xs ih =>
    rw [List.length_cons, List.range_succ_eq_map, List.filterMap_cons]
    simp only [List.getElem?_cons_zero]
    rw [List.filterMap_map]
    have e : (((x :: xs)[·]?) ∘ Nat.succ) = (xs[·]?) := by funext k; simp
    rw [e, ih]
/-- lists that name no list of the store -/
def Cln (st : Sto) : Prop := ∀ xs ∈ st, ∀ n, belows n xs = true
theorem Cln.all {st : Sto} (h : Cln st) (n : Nat) : ∀ k, belowAll n k st = true := by
  induction st with
  | nil => intro k; cases k <;> rfl
  | cons x st ih =>
    intro k
    cases k with
    | zero => rfl
    | succ k =>
      rw [belowAll, h x (by simp) n, ih (fun y hy => h y (by simp [hy])) k] <;> rfl
mutual
theorem tree_below (n : Nat) : ∀ (d : Nat) (v : PV), tree d v = true → below n v = true
  | _, .non, _ => rfl
  | _, .bl _, _ => rfl
  | _, .int _, _ => rfl
  | _, .str _, _ => rfl
  | d + 1, .tup xs, h => trees_below n d xs (Bool.and_eq_true_iff.mp h).2
  | d + 1, .pl xs, h => trees_below n d xs (Bool.and_eq_true_iff.mp h).2
  | 0, .tup _, h => by cases h
  | 0, .pl _, h => by cases h
  | 0, .scr _, h => by cases h
  | _ + 1, .scr _, h => by cases h
  | 0, .ml _, h => by cases h
  | _ + 1, .ml _, h => by cases h
  | 0, .fn _, h => by cases h
  | _ + 1, .fn _, h => by cases h
  | 0, .exn, h => by cases h
  | _ + 1, .exn, h => by cases h
  | 0, .dic _ _, h => by cases h
  | _ + 1, .dic _ _, h => by cases h
  | 0, .md _, h => by cases h
  | _ + 1, .md _, h => by cases h
theorem trees_below (n : Nat) : ∀ (d : Nat) (xs : List PV), xs.all (tree d) = true → belows n xs = true
  | _, [], _ => rfl
  | d, x :: xs, h => by
    rw [List.all_cons, Bool.and_eq_true] at h
    rw [belows, tree_below n d x h.1, trees_below n d xs h.2] <;> rfl
end
theorem Cln.app {st : Sto} (h : Cln st) {d : Nat} {ts : Sto} (ht : ∀ xs ∈ ts, xs.all (tree d) = true) : Cln (st ++ ts) := fun xs hx n => by
  rcases List.mem_append.mp hx with hx | hx
  · exact h xs hx n
  · exact trees_below n d xs (ht xs hx)
theorem Cln.set {st : Sto} (h : Cln st) {d : Nat} {xs : List PV} (hx : xs.all (tree d) = true) (i : Nat) : Cln (st.set i xs) := fun ys hy n => by
  rcases List.mem_or_eq_of_mem_set hy with e | e
  · exact h ys e n
  · subst e; exact trees_below n d ys hx
theorem Cln.cons {h : List PV} {K : Nat} (t : Tin K h) {r : Sto} (hr : Cln r) : Cln (h :: r) := fun xs hx n => by
  rcases List.mem_cons.mp hx with e | e
  · subst e; exact t.below n
  · exact hr xs e n
theorem Cln.tail {h : List PV} {r : Sto} (c : Cln (h :: r)) : Cln r := fun xs hx n => c xs (by simp [hx]) n
theorem set_same {st : Sto} {j : Nat} {xs : List PV} (h : st[j]? = some xs) : st.set j xs = st := by
  obtain ⟨lt, e⟩ := List.getElem?_eq_some_iff.mp h
  rw [← e]; exact List.set_getElem_self lt
end
end Ev.L

/-! EvL22: trees in lists; a point of a list of three. -/
namespace Ev.L
open PySem
section
variable {gs : Gv} {fs : List Fn}
def listz : Nat → PV → PV
  | d + 1, .tup xs => .pl (xs.map (listz d))
  | d + 1, .pl xs => .pl (xs.map (listz d))
  | _, v => v
theorem lists_ok {i : Nat} (hi : fs[i]? = some (g_lists i)) : ∀ (d : Nat) (v : PV), tree d v = true → ∀ (n : Nat) (st : Sto), d < n → callN gs fs n i [v] st = .ok (listz d v) st
  | 0, v, h, n, st, hn => by
    obtain ⟨m, rfl⟩ : ∃ k, n = k + 1 := ⟨n - 1, by omega⟩
    rw [call_eq hi rfl]
    cases v <;> first | (cases h; done) | simp [g_lists, evE_var, tyIs, t_bl, listz]
  | d + 1, v, h, n, st, hn => by
    obtain ⟨m, rfl⟩ : ∃ k, n = k + 1 := ⟨n - 1, by omega⟩
    rw [call_eq hi rfl]
    have rows : ∀ xs : List PV, xs.all (tree d) = true → ∀ x ∈ xs, callN gs fs m i [x] st = .ok (listz d x) st := fun xs h x hx => lists_ok hi d x (List.all_eq_true.mp h x hx) m st (by omega)
    cases v with
    | tup xs =>
      obtain ⟨h1, h2⟩ := Bool.and_eq_true_iff.mp h
      have h3 : lineOk (xs.map (listz d)) = true := by simpa [lineOk] using h1
      simp [g_lists, evE_var, tyIs, t_bl, listz, wipe]
      rw [compL_pure (listz d) xs fun x hx => by simp [compT, evE_var, rows xs h2 x hx]]
      simp [mkL, h3]
    | pl xs =>
      obtain ⟨h1, h2⟩ := Bool.and_eq_true_iff.mp h
      have h3 : lineOk (xs.map (listz d)) = true := by simpa [lineOk] using h1
      simp [g_lists, evE_var, tyIs, t_bl, listz, wipe]
      rw [compL_pure (listz d) xs fun x hx => by simp [compT, evE_var, rows xs h2 x hx]]
      simp [mkL, h3]
    | _ => first | (cases h; done) | simp [g_lists, evE_var, tyIs, t_bl, listz]
theorem point_of_list {i ln : Nat} (hi : fs[i]? = some (g_point_of ln)) (hl : fs[ln]? = some g_least_numbers) {a b c d e f : Int} (b0 : 0 < b) (d0 : 0 < d) (f0 : 0 < f) (b1 : b ≤ 1000) (d1 : d ≤ 1000) (f1 : f ≤ 1000) (a1 : a.natAbs ≤ 100000) (c1 : c.natAbs ≤ 100000) (e1 : e.natAbs ≤ 100000) (n : Nat) (st : Sto) :
    callN gs fs (n + 2) i [.pl [.tup [.int a, .int b], .tup [.int c, .int d], .tup [.int e, .int f]]] st = .ok (.tup ((partedL [a * d * f, c * b * f, e * b * d, b * d * f]).map .int)) st := by
  have z0 : 0 < b * d * f := Int.mul_pos (Int.mul_pos b0 d0) f0
  have z1 : b * d * f ≤ 1000 * 1000 * 1000 := Int.mul_le_mul (Int.mul_le_mul b1 d1 (by omega) (by omega)) f1 (by omega) (by omega)
  have od : ∀ x : Int, mulOk x d = true := fun x => mulOk_r (by omega)
  have of : ∀ x : Int, mulOk x f = true := fun x => mulOk_r (by omega)
  have oa : ∀ x : Int, mulOk a x = true := fun x => mulOk_l (by omega)
  have oc : ∀ x : Int, mulOk c x = true := fun x => mulOk_l (by omega)
  have oe : ∀ x : Int, mulOk e x = true := fun x => mulOk_l (by omega)
  have pb := fdivOk_small (j := b) b0 (by omega)
  have pd := fdivOk_small (j := d) d0 (by omega)
  have pf := fdivOk_small (j := f) f0 (by omega)
  have m1 : a * (b * d * f / b) = a * d * f := by rw [Int.mul_assoc b d f, Int.mul_ediv_cancel_left _ (by omega), Int.mul_assoc]
  have m2 : c * (b * d * f / d) = c * b * f := by rw [Int.mul_comm b d, Int.mul_assoc d b f, Int.mul_ediv_cancel_left _ (by omega), Int.mul_assoc]
  have m3 : e * (b * d * f / f) = e * b * d := by rw [Int.mul_ediv_cancel _ (by omega), Int.mul_assoc]
  have ab : ∀ (x y z : Int), x.natAbs ≤ 100000 → 0 < y → y ≤ 1000 → 0 < z → z ≤ 1000 → (x * y * z).natAbs < 18446744073709551616 := fun x y z hx y0 y1 z0 z1 => by
    rw [Int.natAbs_mul, Int.natAbs_mul]
    have : x.natAbs * y.natAbs * z.natAbs ≤ 100000 * 1000 * 1000 := Nat.mul_le_mul (Nat.mul_le_mul hx (by omega)) (by omega)
    omega
  obtain ⟨g0, g1⟩ := gcdl_pos (l := [a * d * f, c * b * f, e * b * d, b * d * f]) (w := b * d * f) (by simp) z0
  have q : callN gs fs (n + 1) ln [.tup [.int (a * d * f), .int (c * b * f), .int (e * b * d), .int (b * d * f)]] st = _ := least_numbers_ok (gs := gs) hl (l := [a * d * f, c * b * f, e * b * d, b * d * f]) (by simp) (by
    intro x hx
    simp only [List.mem_cons, List.not_mem_nil, or_false] at hx
    rcases hx with h | h | h | h <;> subst h
    · exact ab a d f a1 d0 d1 f0 f1
    · exact ab c b f c1 b0 b1 f0 f1
    · exact ab e b d e1 b0 b1 d0 d1
    · omega) g0 (by omega) n st
  rw [call_eq hi rfl]
  simp [g_point_of, evE_var, items, at0, at1, at2, b_mul false (od _), b_mul false (of _), b_mul false (oa _), b_mul false (oc _), b_mul false (oe _), srcOf, wipe, compL_cons, compL_nil, compT, b_fdiv false pb, b_fdiv false pd, b_fdiv false pf, m1, m2, m3, mkL, lineOk, p_tupL, mkT, b_addT, q]
theorem c_neL {st : Sto} {xs ys : List PV} (h1 : plain 60 (.pl xs) = true) (h2 : plain 60 (.pl ys) = true) : cmpop st .ne (.pl xs) (.pl ys) = some (!peqs xs ys) := by
  show Option.map _ (if (plain 60 (.pl xs) && plain 60 (.pl ys)) = true then _ else _) = _
  rw [h1, h2] <;> rfl
theorem c_eqL {st : Sto} {xs ys : List PV} (h1 : plain 60 (.pl xs) = true) (h2 : plain 60 (.pl ys) = true) : cmpop st .eq (.pl xs) (.pl ys) = some (peqs xs ys) := by
  show (if (plain 60 (.pl xs) && plain 60 (.pl ys)) = true then _ else _) = _
  rw [h1, h2] <;> rfl
/-- a tuple held against a list -/
theorem same_tl {i : Nat} (hi : fs[i]? = some (g_same i)) (xs ys : List PV) (n : Nat) (st : Sto) : callN gs fs (n + 1) i [.tup xs, .pl ys] st = .ok (.bl false) st := by
  rw [call_eq hi rfl]
  simp [g_same, evE_var, tyIs, t_bl, c_neB, c_eqB]
end
end Ev.L

/-! EvL23: fractions as rational numbers; wide numbers. -/
namespace Ev.L
open PySem
section
variable {gs : Gv} {fs : List Fn} {cl : Cl} {ar : Nat → Nat}
/-- two laps of the remainders halve -/
theorem eucl_wide (p0 p1 p2 : Option PV) (st : Sto) : ∀ (k x y n : Nat), x < 2 ^ k → 2 * k < n → whlL cl gs ar (.cmp .gt (.var 3) (.int 0)) (euclB 3) n [p0, p1, p2, some (.int x), some (.int y)] st = .next [p0, p1, p2, some (.int 0), some (.int (Nat.gcd x y : Nat))] st := by
  intro k
  induction k with
  | zero =>
    intro x y n hx hn
    exact eucl_loop p0 p1 p2 st x y n (by omega)
  | succ k ih =>
    intro x y n hx hn
    obtain ⟨n, rfl⟩ : ∃ m, n = m + 2 := ⟨n - 2, by omega⟩
    have lap : ∀ (x y n : Nat), 0 < x → whlL cl gs ar (.cmp .gt (.var 3) (.int 0)) (euclB 3) (n + 1) [p0, p1, p2, some (.int x), some (.int y)] st = whlL cl gs ar (.cmp .gt (.var 3) (.int 0)) (euclB 3) n [p0, p1, p2, some (.int ((y % x : Nat) : Int)), some (.int x)] st := fun x y n h => by
      have hx : (0 : Int) < (x : Int) := by omega
      have e : ((y : Int) % (x : Int)) = ((y % x : Nat) : Int) := by omega
      rw [whl_step (e2 := [p0, p1, p2, some (.int ((y % x : Nat) : Int)), some (.int x)]) (st' := st)]
      · simp [evE_var, c_gt, t_bl]; omega
      · simp [euclB, evE_var, p_int, b_mod false hx, mkT, lineOk, items, Tgs.len]
    by_cases h : x = 0
    · subst h
      exact eucl_loop p0 p1 p2 st 0 y _ (by omega)
    · have hl : y % x < x := Nat.mod_lt _ (by omega)
      rw [lap x y (n + 1) (by omega)]
      have g1 : Nat.gcd (y % x) x = Nat.gcd x y := by rw [Nat.gcd_rec x y]
      by_cases h2 : y % x = 0
      · rw [eucl_loop p0 p1 p2 st (y % x) x (n + 1) (by omega), g1]
      · rw [lap (y % x) x n (by omega)]
        have hl2 : x % (y % x) < y % x := Nat.mod_lt _ (by omega)
        have hs : x % (y % x) + y % x ≤ x := by
          have d := Nat.div_add_mod x (y % x)
          have q : 1 ≤ x / (y % x) := (Nat.one_le_div_iff (by omega)).mpr (by omega)
          have : (y % x) * 1 ≤ (y % x) * (x / (y % x)) := Nat.mul_le_mul (Nat.le_refl _) q
          omega
        have hp : x < 2 ^ k * 2 := hx
        rw [ih (x % (y % x)) (y % x) n (by omega) (by omega)]
        have g2 : Nat.gcd (x % (y % x)) (y % x) = Nat.gcd (y % x) x := by rw [Nat.gcd_rec (y % x) x]
        rw [g2, g1]
theorem wide_fuel {k : Nat} (h : k ≤ 9000) : 2 * k < wFuel := by unfold wFuel; omega
theorem log_lt {x k : Nat} (h : x < 2 ^ k) (k0 : 0 < k) : x.log2 < k := by
  by_cases z : x = 0
  · subst z; simpa using k0
  · exact (Nat.log2_lt z).mpr h
theorem mulOk_w {a b : Int} {k : Nat} (h1 : a.natAbs < 2 ^ k) (h2 : b.natAbs < 2 ^ k) (hk : k ≤ 9000) : mulOk a b = true := by
  by_cases k0 : k = 0
  · subst k0; exact mulOk_l (by omega)
  · have l1 := log_lt h1 (by omega)
    have l2 := log_lt h2 (by omega)
    have : a.natAbs.log2 + b.natAbs.log2 < 1000000 := by omega
    simp [mulOk, this]
theorem fdivOk_w {b : Int} {k : Nat} (b0 : 0 < b) (h : b.natAbs < 2 ^ k) (hk : k ≤ 9000) : fdivOk b = true := by
  by_cases k0 : k = 0
  · subst k0; omega
  · have l1 := log_lt h (by omega)
    have : b.natAbs.log2 < 9000 := by omega
    simp [fdivOk, b0, this]
/-- the tuple of a rational number -/
def fr (q : Rat) : PV := .tup [.int q.num, .int q.den]
/-- both its numbers are of at most k bits -/
def Sz (k : Nat) (q : Rat) : Prop := q.num.natAbs < 2 ^ k ∧ q.den < 2 ^ k
theorem Sz.mono {k m : Nat} {q : Rat} (h : Sz k q) (l : k ≤ m) : Sz m q :=
  ⟨Nat.lt_of_lt_of_le h.1 (Nat.pow_le_pow_right (by decide) l), Nat.lt_of_lt_of_le h.2 (Nat.pow_le_pow_right (by decide) l)⟩
theorem rat_low (q : Rat) : Low q.num q.den := ⟨by have := q.den_pos; omega, q.reduced⟩
theorem rat_eq (q : Rat) : q = (q.num : Rat) / ((q.den : Int) : Rat) := by
  rw [← Rat.divInt_eq_div]; exact (Rat.num_divInt_den q).symm
theorem cast_ne {a : Int} (h : a ≠ 0) : (a : Rat) ≠ 0 := fun e => h (Rat.intCast_inj.mp (by rw [e]; rfl))
theorem cast_pos {a : Int} (h : 0 < a) : (0 : Rat) < (a : Rat) := Rat.intCast_lt_intCast.mpr h
theorem den_ne (q : Rat) : ((q.den : Int) : Rat) ≠ 0 := cast_ne (by have := q.den_pos; omega)
theorem cross_rat {a b c d : Int} (b0 : b ≠ 0) (d0 : d ≠ 0) : (a : Rat) / b = (c : Rat) / d ↔ a * d = c * b := by
  have e1 := cast_ne b0
  have e2 := cast_ne d0
  constructor
  · intro h
    have : (a : Rat) * d = c * b := by grind
    rw [← Rat.intCast_mul, ← Rat.intCast_mul] at this
    exact Rat.intCast_inj.mp this
  · intro h
    have : (a : Rat) * d = c * b := by rw [← Rat.intCast_mul, ← Rat.intCast_mul, h]
    grind
theorem quot_rat {u l : Int} (l0 : l ≠ 0) : quotN u l = ((u : Rat) / l).num ∧ quotD u l = (((u : Rat) / l).den : Int) := by
  refine low_unique (quot_low l0) (rat_low _) ?_
  have e := rat_eq ((u : Rat) / l)
  have d0 : ((((u : Rat) / l).den : Nat) : Int) ≠ 0 := by have := ((u : Rat) / l).den_pos; omega
  have k := (cross_rat l0 d0).mp e
  have g0 := gcdI_pos (u := u) l0
  have n1 := quot_num (u := u) l0
  have n2 := quot_den (u := u) l0
  refine Int.eq_of_mul_eq_mul_left (Int.ne_of_gt g0) ?_
  rw [← Int.mul_assoc, n1, ← Int.mul_assoc, Int.mul_comm (gcdI u l) _, Int.mul_assoc _ (gcdI u l), n2]
  rw [Int.mul_assoc, k]; grind
theorem low_rat {a b : Int} (h : Low a b) : ((a : Rat) / b).num = a ∧ (((a : Rat) / b).den : Int) = b := by
  have b0 : b ≠ 0 := Int.ne_of_gt h.1
  have d0 : ((((a : Rat) / b).den : Nat) : Int) ≠ 0 := by have := ((a : Rat) / b).den_pos; omega
  exact low_unique (rat_low _) h ((cross_rat d0 b0).mp (rat_eq _).symm)
theorem fr_of {a b : Int} (h : Low a b) : fr ((a : Rat) / b) = .tup [.int a, .int b] := by unfold fr; rw [(low_rat h).1, (low_rat h).2]
theorem fr_quot {u l : Int} (l0 : l ≠ 0) : (.tup [.int (quotN u l), .int (quotD u l)] : PV) = fr ((u : Rat) / l) := by unfold fr; rw [(quot_rat l0).1, (quot_rat l0).2]
theorem quot_wide {i : Nat} (hi : fs[i]? = some g_quot) {u l : Int} {k : Nat} (hu : u.natAbs < 2 ^ k) (hl : l.natAbs < 2 ^ k) (hk : k ≤ 9000) (l0 : l ≠ 0) (n : Nat) (st : Sto) :
    callN gs fs (n + 1) i [.int u, .int l] st = .ok (fr ((u : Rat) / l)) st := by
  rw [← fr_quot l0, call_eq hi rfl]
  have e := eucl_wide (cl := callN gs fs n) (gs := gs) (ar := arOf fs) (some (.int u)) (some (.int l)) none st k u.natAbs l.natAbs wFuel hu (wide_fuel hk)
  have gp : 0 < Nat.gcd u.natAbs l.natAbs := Nat.gcd_pos_of_pos_right _ (by omega)
  have gl : Nat.gcd u.natAbs l.natAbs ≤ l.natAbs := Nat.le_of_dvd (by omega) (Nat.gcd_dvd_right _ _)
  have o1 : fdivOk (Nat.gcd u.natAbs l.natAbs : Nat) = true := fdivOk_w (k := k) (by omega) (by rw [Int.natAbs_natCast]; omega) hk
  have o2 : ∀ (x y : Int), y.natAbs = 1 → mulOk y x = true := fun x y h => mulOk_l (by omega)
  simp [g_quot, evE_var, p_abs, mkT, lineOk, items, Tgs.len, abs_nat, e, c_gt, t_bl]
  by_cases h : 0 < l
  · simp [h, evE_var, b_mul false (o2 u 1 rfl), b_mul false (o2 l 1 rfl), b_fdiv false o1, quotN, quotD, sgnI, gcdI]
  · simp [h, evE_var, b_mul false (o2 u (-1) rfl), b_mul false (o2 l (-1) rfl), b_fdiv false o1, quotN, quotD, sgnI, gcdI]
/-- a quotient is no greater than its numbers -/
theorem Sz.quot {u l : Int} {k : Nat} (l0 : l ≠ 0) (hu : u.natAbs < 2 ^ k) (hl : l.natAbs < 2 ^ k) : Sz k ((u : Rat) / l) := by
  have a := quotN_le (u := u) l0
  have b := quotD_le (u := u) l0
  have q := quot_rat (u := u) l0
  rw [q.1] at a
  rw [q.2, Int.natAbs_natCast] at b
  exact ⟨by omega, by omega⟩
theorem pow_prod {a b k m : Nat} (h1 : a < 2 ^ k) (h2 : b < 2 ^ m) : a * b < 2 ^ (k + m) := by
  rw [Nat.pow_add]
  exact Nat.mul_lt_mul_of_lt_of_lt h1 h2
theorem abs_prod {a b : Int} {k m : Nat} (h1 : a.natAbs < 2 ^ k) (h2 : b.natAbs < 2 ^ m) : (a * b).natAbs < 2 ^ (k + m) := by rw [Int.natAbs_mul]; exact pow_prod h1 h2
theorem abs_sum {a b : Int} {k : Nat} (h1 : a.natAbs < 2 ^ k) (h2 : b.natAbs < 2 ^ k) : (a + b).natAbs < 2 ^ (k + 1) := by
  have := Int.natAbs_add_le a b
  rw [Nat.pow_succ]; omega
theorem pow_up {a k m : Nat} (h : a < 2 ^ k) (l : k ≤ m) : a < 2 ^ m := Nat.lt_of_lt_of_le h (Nat.pow_le_pow_right (by decide) l)
theorem den_pos' (q : Rat) : (0 : Int) < q.den := by have := q.den_pos; omega
theorem sum_eq (p q : Rat) : (((p.num * q.den + q.num * p.den : Int) : Rat) / ((p.den * q.den : Int) : Rat)) = p + q := by
  have e1 := rat_eq p
  have e2 := rat_eq q
  have d1 := den_ne p
  have d2 := den_ne q
  rw [Rat.intCast_add, Rat.intCast_mul, Rat.intCast_mul, Rat.intCast_mul]
  generalize (p.num : Rat) = a at *
  generalize ((p.den : Int) : Rat) = b at *
  generalize (q.num : Rat) = c at *
  generalize ((q.den : Int) : Rat) = d at *
  grind
theorem prod_eq (p q : Rat) : (((p.num * q.num : Int) : Rat) / ((p.den * q.den : Int) : Rat)) = p * q := by
  have e1 := rat_eq p
  have e2 := rat_eq q
  have d1 := den_ne p
  have d2 := den_ne q
  rw [Rat.intCast_mul, Rat.intCast_mul]
  generalize (p.num : Rat) = a at *
  generalize ((p.den : Int) : Rat) = b at *
  generalize (q.num : Rat) = c at *
  generalize ((q.den : Int) : Rat) = d at *
  grind
section
variable {p q : Rat} {k m : Nat} (hp : Sz k p) (hq : Sz m q)
include hp hq
theorem sz_sum_num : (p.num * q.den + q.num * p.den).natAbs < 2 ^ (k + m + 1) :=
  abs_sum (abs_prod hp.1 (by rw [Int.natAbs_natCast]; exact hq.2)) (by rw [Nat.add_comm k m]; exact abs_prod hq.1 (by rw [Int.natAbs_natCast]; exact hp.2))
theorem sz_den : ((p.den : Int) * q.den).natAbs < 2 ^ (k + m) := abs_prod (by rw [Int.natAbs_natCast]; exact hp.2) (by rw [Int.natAbs_natCast]; exact hq.2)
theorem Sz.add : Sz (k + m + 1) (p + q) := by
  rw [← sum_eq]
  exact Sz.quot (Int.ne_of_gt (Int.mul_pos (den_pos' p) (den_pos' q))) (sz_sum_num hp hq) (pow_up (sz_den hp hq) (by omega))
theorem Sz.mul : Sz (k + m) (p * q) := by
  rw [← prod_eq]
  exact Sz.quot (Int.ne_of_gt (Int.mul_pos (den_pos' p) (den_pos' q))) (abs_prod hp.1 hq.1) (sz_den hp hq)
theorem sum_rat {i qu : Nat} (hi : fs[i]? = some (g_sum_of qu)) (hu : fs[qu]? = some g_quot) (hk : k + m + 1 ≤ 9000) (n : Nat) (st : Sto) : callN gs fs (n + 2) i [fr p, fr q] st = .ok (fr (p + q)) st := by
  have w := quot_wide (gs := gs) hu (sz_sum_num hp hq) (pow_up (sz_den hp hq) (by omega)) hk (Int.ne_of_gt (Int.mul_pos (den_pos' p) (den_pos' q))) n st
  rw [sum_eq] at w
  have o1 : mulOk p.num q.den = true := mulOk_w (k := k + m + 1) (pow_up hp.1 (by omega)) (by rw [Int.natAbs_natCast]; exact pow_up hq.2 (by omega)) hk
  have o2 : mulOk q.num p.den = true := mulOk_w (k := k + m + 1) (pow_up hq.1 (by omega)) (by rw [Int.natAbs_natCast]; exact pow_up hp.2 (by omega)) hk
  have o3 : mulOk p.den q.den = true := mulOk_w (k := k + m + 1) (by rw [Int.natAbs_natCast]; exact pow_up hp.2 (by omega)) (by rw [Int.natAbs_natCast]; exact pow_up hq.2 (by omega)) hk
  rw [call_eq hi rfl]
  simp [g_sum_of, evE_var, items, at0, at1, fr, b_mul false o1, b_mul false o2, b_mul false o3, b_add]
  simp [fr] at w
  simp [w]
theorem prod_rat {i qu : Nat} (hi : fs[i]? = some (g_product_of qu)) (hu : fs[qu]? = some g_quot) (hk : k + m ≤ 9000) (n : Nat) (st : Sto) : callN gs fs (n + 2) i [fr p, fr q] st = .ok (fr (p * q)) st := by
  have w := quot_wide (gs := gs) hu (abs_prod hp.1 hq.1) (sz_den hp hq) hk (Int.ne_of_gt (Int.mul_pos (den_pos' p) (den_pos' q))) n st
  rw [prod_eq] at w
  have o1 : mulOk p.num q.num = true := mulOk_w (k := k + m) (pow_up hp.1 (by omega)) (pow_up hq.1 (by omega)) hk
  have o3 : mulOk p.den q.den = true := mulOk_w (k := k + m) (by rw [Int.natAbs_natCast]; exact pow_up hp.2 (by omega)) (by rw [Int.natAbs_natCast]; exact pow_up hq.2 (by omega)) hk
  rw [call_eq hi rfl]
  simp [g_product_of, evE_var, items, at0, at1, fr, b_mul false o1, b_mul false o3]
  simp [fr] at w
  simp [w]
theorem Sz.neg' : Sz m (-q) := by
  refine ⟨?_, ?_⟩
  · rw [Rat.neg_num, Int.natAbs_neg]; exact hq.1
  · rw [Rat.neg_den]; exact hq.2
theorem Sz.sub : Sz (k + m + 1) (p - q) := by
  rw [Rat.sub_eq_add_neg]
  exact hp.add (Sz.neg' hp hq)
theorem lack_rat {i su qu : Nat} (hi : fs[i]? = some (g_lack_of su)) (hs : fs[su]? = some (g_sum_of qu)) (hu : fs[qu]? = some g_quot) (hk : k + m + 1 ≤ 9000) (n : Nat) (st : Sto) : callN gs fs (n + 3) i [fr p, fr q] st = .ok (fr (p - q)) st := by
  have w := sum_rat (gs := gs) hp (Sz.neg' hp hq) hs hu hk n st
  rw [← Rat.sub_eq_add_neg] at w
  rw [call_eq hi rfl]
  simp [fr, Rat.neg_num, Rat.neg_den] at w
  simp [g_lack_of, evE_var, items, at0, at1, fr, b_sub, mkT, lineOk, w]
end
end
end Ev.L

/-! EvL24: rows of whole numbers as rational rows. -/
namespace Ev.L
open PySem
section
variable {gs : Gv} {fs : List Fn}
theorem least_loopW {k : Nat} (hk : k ≤ 9000) {cl : Cl} {ar : Nat → Nat} {st : Sto} {v : PV} : ∀ (l : List Int) (g : Nat) (o2 o3 o4 : Option PV), (∀ x ∈ l, x.natAbs < 2 ^ k) → ∃ p2 p3 p4, forL cl gs ar [] (.name 2) leastB
    (l.map .int) [some v, some (.int g), o2, o3, o4] st = .next [some v, some (.int (gcdl g l)), p2, p3, p4] st
  | [], g, o2, o3, o4, _ => ⟨o2, o3, o4, rfl⟩
  | x :: r, g, o2, o3, o4, h => by
    have e := eucl_wide (cl := cl) (gs := gs) (ar := ar) (some v) (some (.int g)) (some (.int x)) st k x.natAbs g wFuel (h x (by simp)) (wide_fuel hk)
    obtain ⟨p2, p3, p4, q⟩ := least_loopW hk (cl := cl) (ar := ar) (st := st) (v := v) r (Nat.gcd g x.natAbs) (some (.int x)) (some (.int 0)) (some (.int (Nat.gcd g x.natAbs : Nat))) fun y hy => h y (by simp [hy])
    refine ⟨p2, p3, p4, ?_⟩
    rw [Nat.gcd_comm] at e
    rw [List.map_cons, forL_cons (e1 := [some v, some (.int g), some (.int x), o3, o4]) (e2 := [some v, some (.int (Nat.gcd g x.natAbs : Nat)), some (.int x), some (.int 0), some (.int (Nat.gcd g x.natAbs : Nat))]) (st' := st)]
    · rw [q, gcdl]
      rfl
    · simp
    · simp [leastB, evE_var, p_abs, abs_nat, mkT, lineOk, items, Tgs.len, e]
theorem gcdl_below {k : Nat} : ∀ (l : List Int) (g : Int), 0 ≤ g → g.natAbs < 2 ^ k → (∀ x ∈ l, x.natAbs < 2 ^ k) → (gcdl g l).natAbs < 2 ^ k
  | [], g, _, h, _ => h
  | x :: r, g, g0, h, hx => by
    rw [gcdl]
    refine gcdl_below r _ (by omega) ?_ fun y hy => hx y (by simp [hy])
    rw [Int.natAbs_natCast]
    have := hx x (by simp)
    by_cases z : g.natAbs = 0
    · rw [z, Nat.gcd_zero_left]; exact this
    · have := Nat.le_of_dvd (by omega) (Nat.gcd_dvd_left g.natAbs x.natAbs); omega
theorem gcdl_divs : ∀ (l : List Int) (g : Int), gcdl g l ∣ g ∧ ∀ x ∈ l, gcdl g l ∣ x
  | [], g => ⟨Int.dvd_refl _, fun _ h => by cases h⟩
  | x :: r, g => by
    rw [gcdl]
    have ⟨h1, h2⟩ := gcdl_divs r ((Nat.gcd g.natAbs x.natAbs : Nat) : Int)
    have d1 : ((Nat.gcd g.natAbs x.natAbs : Nat) : Int) ∣ g := Int.dvd_natAbs.mp (Int.natCast_dvd_natCast.mpr (Nat.gcd_dvd_left _ _))
    have d2 : ((Nat.gcd g.natAbs x.natAbs : Nat) : Int) ∣ x := Int.dvd_natAbs.mp (Int.natCast_dvd_natCast.mpr (Nat.gcd_dvd_right _ _))
    exact ⟨Int.dvd_trans h1 d1, fun y hy => by
      rcases List.mem_cons.mp hy with e | e
      · subst e; exact Int.dvd_trans h1 d2
      · exact h2 y e⟩
/-- not all 0: a divisor above 0 -/
theorem gcdl_some {l : List Int} {x : Int} (hx : x ∈ l) (x0 : x ≠ 0) : 0 < gcdl 0 l := by
  have h := (gcdl_divs l 0).2 x hx
  have n := gcdl_nonneg l 0 (by omega)
  rcases Int.lt_or_eq_of_le n with e | e
  · exact e
  · rw [← e] at h
    exact absurd (Int.zero_dvd.mp h) x0
theorem least_wide {i : Nat} (hi : fs[i]? = some g_least_numbers) {l : List Int} {k : Nat} (hk : k ≤ 9000) (hl : l.length ≤ 1000) (hb : ∀ x ∈ l, x.natAbs < 2 ^ k) (g0 : 0 < gcdl 0 l) (n : Nat) (st : Sto) :
    callN gs fs (n + 1) i [.tup (l.map .int)] st = .ok (.tup ((partedL l).map .int)) st := by
  rw [call_eq hi rfl]
  obtain ⟨p2, p3, p4, d⟩ := least_loopW (k := k) hk (cl := callN gs fs n) (gs := gs) (ar := arOf fs) (st := st) (v := .tup (l.map .int)) l 0 none none none hb
  have o1 := fdivOk_w g0 (gcdl_below l 0 (by omega) (Nat.two_pow_pos k) hb) hk
  have c : ∀ p0 p3 p4, compL (callN gs fs n) gs (arOf fs) [] (.name 2) .nil (.bin .fdiv false (.var 2) (.var 1)) [p0, some (.int (gcdl 0 l)), none, p3, p4] (l.map .int) st = .ok ((l.map PV.int).map fun x => match x with | .int x => .int (x / gcdl 0 l) | y => y) st := fun p0 p3 p4 =>
    compL_pure _ _ fun x hx => by
      obtain ⟨y, _, rfl⟩ := List.mem_map.mp hx
      simp [compT, evE_var, b_fdiv false o1]
  have e : ((l.map PV.int).map fun x => match x with | PV.int x => PV.int (x / gcdl 0 l) | y => y) = (partedL l).map PV.int := by simp [partedL]
  have o2 : lineOk ((partedL l).map PV.int) = true := lineOk_le (by simp [partedL]; exact hl)
  rw [e] at c
  have d : forL (callN gs fs n) gs (arOf fs) [] (.name 2) leastB (l.map .int) [some (.tup (l.map .int)), some (.int 0), none, none, none] st = _ := d
  simp [g_least_numbers, evE_var, srcOf, d, wipe, c, mkL, o2, p_tupL, mkT]
/-- a row of whole numbers: c times these rational numbers -/
def Row (c : Rat) (qs : List Rat) (l : List Int) : Prop := l.map (fun x : Int => (x : Rat)) = qs.map (c * ·)
theorem pos_parts {c : Rat} (c0 : 0 < c) : ∃ m n : Nat, 0 < m ∧ 0 < n ∧ c * ((n : Int) : Rat) = ((m : Int) : Rat) := by
  refine ⟨c.num.toNat, c.den, ?_, c.den_pos, ?_⟩
  · have : 0 < c.num := by
      have e := rat_eq c
      have d := den_pos' c
      refine Int.not_le.mp fun h => ?_
      have : c ≤ 0 := by
        rw [e, Rat.div_def]
        have i1 : (0 : Rat) < ((c.den : Int) : Rat) := cast_pos d
        have := Rat.intCast_le_intCast.mpr h
        have k := Rat.mul_le_mul_of_nonneg_right this (Rat.le_of_lt (Rat.inv_pos.mpr i1))
        rwa [show ((0 : Int) : Rat) = 0 from rfl, Rat.zero_mul] at k
      exact Rat.not_le.mpr c0 this
    omega
  · have e := rat_eq c
    have d := den_ne c
    have : ((c.num.toNat : Nat) : Int) = c.num := Int.toNat_of_nonneg (Rat.num_nonneg.mpr (Rat.le_of_lt c0))
    rw [this]
    generalize (c.num : Rat) = a at *
    generalize ((c.den : Int) : Rat) = b at *
    grind
/-- rows of the same ways are parted alike -/
theorem row_parted {c c' : Rat} {qs : List Rat} {l l' : List Int} (c0 : 0 < c) (c0' : 0 < c') (h : Row c qs l) (h' : Row c' qs l') : partedL l = partedL l' := by
  obtain ⟨m, n, m0, n0, e⟩ := pos_parts (c := c' / c) (by rw [Rat.div_def]; exact Rat.mul_pos c0' (Rat.inv_pos.mpr c0))
  refine parted_eq (m := n) (n := m) n0 m0 ?_
  have inj : ∀ {a b : List Int}, a.map (fun x : Int => (x : Rat)) = b.map (fun x : Int => (x : Rat)) → a = b := fun {a b} h => (List.map_inj_right fun x y e => Rat.intCast_inj.mp e).mp h
  refine inj ?_
  have cn : c ≠ 0 := fun e => by subst e; exact Rat.lt_irrefl c0
  have p1 : (l.map ((m : Int) * ·)).map (fun x : Int => (x : Rat)) = (l.map (fun x : Int => (x : Rat))).map (((m : Int) : Rat) * ·) := by simp [Rat.intCast_mul]
  have p2 : (l'.map ((n : Int) * ·)).map (fun x : Int => (x : Rat)) = (l'.map (fun x : Int => (x : Rat))).map (((n : Int) : Rat) * ·) := by simp [Rat.intCast_mul]
  rw [p1, p2, h, h', List.map_map, List.map_map]
  refine List.map_congr_left fun x _ => ?_
  show ((m : Int) : Rat) * (c * x) = ((n : Int) : Rat) * (c' * x)
  rw [← e]
  generalize ((n : Int) : Rat) = b at *
  grind
/-- the contrary row -/
theorem parted_neg (l : List Int) : partedL (l.map (- ·)) = (partedL l).map (- ·) := by
  have g : ∀ (l : List Int) (g : Int), gcdl g (l.map (- ·)) = gcdl g l := fun l => by
    induction l with
    | nil => intro g; rfl
    | cons x r ih => intro g; rw [List.map_cons, gcdl, gcdl, ih, Int.natAbs_neg]
  unfold partedL
  rw [g, List.map_map, List.map_map]
  refine List.map_congr_left fun x hx => ?_
  show -x / gcdl 0 l = -(x / gcdl 0 l)
  exact Int.neg_ediv_of_dvd ((gcdl_divs l 0).2 x hx)
end
end Ev.L

/-! EvL25: points, ways, planes: wide numbers. -/
namespace Ev.L
open PySem
section
variable {gs : Gv} {fs : List Fn}
/-- at most k bits -/
def Bt (k : Nat) (x : Int) : Prop := x.natAbs < 2 ^ k
theorem Bt.mono {k m : Nat} {x : Int} (h : Bt k x) (l : k ≤ m) : Bt m x := pow_up h l
theorem Bt.mul {k m : Nat} {x y : Int} (h : Bt k x) (h' : Bt m y) : Bt (k + m) (x * y) := abs_prod h h'
theorem Bt.add {k m : Nat} {x y : Int} (h : Bt k x) (h' : Bt m y) : Bt (k + m + 1) (x + y) := abs_sum (pow_up h (by omega)) (pow_up h' (by omega))
theorem Bt.neg {k : Nat} {x : Int} (h : Bt k x) : Bt k (-x) := by unfold Bt; rw [Int.natAbs_neg]; exact h
theorem Bt.sub {k m : Nat} {x y : Int} (h : Bt k x) (h' : Bt m y) : Bt (k + m + 1) (x - y) := by rw [Int.sub_eq_add_neg]; exact h.add h'.neg
/-- sums of the same size: a bit more -/
theorem Bt.add' {k : Nat} {x y : Int} (h : Bt k x) (h' : Bt k y) : Bt (k + 1) (x + y) := abs_sum h h'
theorem Bt.sub' {k : Nat} {x y : Int} (h : Bt k x) (h' : Bt k y) : Bt (k + 1) (x - y) := by rw [Int.sub_eq_add_neg]; exact abs_sum h (by rw [Int.natAbs_neg]; exact h')
theorem Bt.ok {k m : Nat} {x y : Int} (h : Bt k x) (h' : Bt m y) (l : k + m ≤ 9000) : mulOk x y = true := mulOk_w (k := k + m) (pow_up h (by omega)) (pow_up h' (by omega)) l
theorem Sz.n {k : Nat} {q : Rat} (h : Sz k q) : Bt k q.num := h.1
theorem Sz.d {k : Nat} {q : Rat} (h : Sz k q) : Bt k q.den := by unfold Bt; rw [Int.natAbs_natCast]; exact h.2
theorem parted_wide {i dv : Nat} (hi : fs[i]? = some (g_parted dv)) (h4 : fs[dv]? = some g_divisor) {l : List Int} {k : Nat} (hk : k ≤ 9000) (hl : l.length ≤ 1000) (hb : ∀ x ∈ l, Bt k x) (g0 : 0 < gcdl 0 l) (n : Nat) (st : Sto) :
    callN gs fs (n + 2) i [.tup (l.map .int)] st = .ok (.tup ((partedL l).map .int)) st := by
  rw [call_eq hi rfl]
  have d := (divisor_ok (gs := gs) h4 l n st).1
  have o1 := fdivOk_w g0 (gcdl_below l 0 (by omega) (Nat.two_pow_pos k) hb) hk
  have c : ∀ p0, compL (callN gs fs (n + 1)) gs (arOf fs) [] (.name 2) .nil (.bin .fdiv false (.var 2) (.var 1)) [p0, some (.int (gcdl 0 l)), none] (l.map .int) st = .ok ((l.map PV.int).map fun x => match x with | .int x => .int (x / gcdl 0 l) | y => y) st := fun p0 =>
    compL_pure _ _ fun x hx => by
      obtain ⟨y, _, rfl⟩ := List.mem_map.mp hx
      simp [compT, evE_var, b_fdiv false o1]
  have e : ((l.map PV.int).map fun x => match x with | PV.int x => PV.int (x / gcdl 0 l) | y => y) = (partedL l).map PV.int := by
    simp [partedL]
  have o2 : lineOk ((partedL l).map PV.int) = true := lineOk_le (by simp [partedL]; exact hl)
  rw [e] at c
  simp [g_parted, evE_var, d, srcOf, wipe, c, mkL, o2, p_tupL, mkT]
theorem made_wide {i dv : Nat} (hi : fs[i]? = some (g_made dv)) (h4 : fs[dv]? = some g_divisor) {u l : Int} {k : Nat} (hl : Bt k l) (hk : k ≤ 9000) (l0 : l ≠ 0) (n : Nat) (st : Sto) :
    callN gs fs (n + 2) i [.int u, .int l] st = .ok (fr ((u : Rat) / l)) st := by
  rw [← fr_quot l0, call_eq hi rfl]
  have d := (divisor_ok (gs := gs) h4 [u, l] n st).1
  rw [gcdl_two] at d
  have d : callN gs fs (n + 1) dv [.tup [.int u, .int l]] st = _ := d
  have gp : 0 < Nat.gcd u.natAbs l.natAbs := Nat.gcd_pos_of_pos_right _ (by omega)
  have gl : Nat.gcd u.natAbs l.natAbs ≤ l.natAbs := Nat.le_of_dvd (by omega) (Nat.gcd_dvd_right _ _)
  have o1 : fdivOk (gcdI u l) = true := fdivOk_w (k := k) (by unfold gcdI; omega) (by unfold gcdI; rw [Int.natAbs_natCast]; exact Nat.lt_of_le_of_lt gl hl) hk
  by_cases h : 0 < l <;> simp [g_made, evE_var, mkT, lineOk, d, c_gt, t_bl, h, b_fdiv false o1, quotN, quotD, sgnI]
theorem way_wide {i : Nat} (hi : fs[i]? = some g_way_between) {a b c d e f g h : Int} {k : Nat} (hk : k + k ≤ 9000) (ha : Bt k a) (hb : Bt k b) (hc : Bt k c) (hd : Bt k d) (he : Bt k e) (hf : Bt k f) (hg : Bt k g) (hh : Bt k h) (n : Nat) (st : Sto) :
    callN gs fs (n + 1) i [.tup [.int a, .int b, .int c, .int d], .tup [.int e, .int f, .int g, .int h]] st = .ok (.tup [.int (e * d - a * h), .int (f * d - b * h), .int (g * d - c * h)]) st := by
  rw [call_eq hi rfl]
  simp [g_way_between, evE_var, items, HT.sIx, cut, mkT, lineOk, zipT, wipe, compL_cons, compL_nil, compT, Tgs.len, at3, b_mul false (he.ok hd hk), b_mul false (hf.ok hd hk), b_mul false (hg.ok hd hk), b_mul false (ha.ok hh hk), b_mul false (hb.ok hh hk), b_mul false (hc.ok hh hk), b_sub, mkL, p_tupL]
/-- a point of whole numbers, by its three rational numbers -/
structure PtR (k : Nat) (p q r : Rat) (P Q R S : Int) : Prop where
  s0 : 0 < S
  g : gcdl 0 [P, Q, R, S] = 1
  hp : (P : Rat) = p * S
  hq : (Q : Rat) = q * S
  hr : (R : Rat) = r * S
  bp : Bt k P
  bq : Bt k Q
  br : Bt k R
  bs : Bt k S
theorem PtR.sn {k : Nat} {p q r : Rat} {P Q R S : Int} (h : PtR k p q r P Q R S) : (S : Rat) ≠ 0 := cast_ne (Int.ne_of_gt h.s0)
theorem rt_rat {q : Rat} {P S : Int} (h : P * q.den = q.num * S) : (P : Rat) = q * S := by
  have e := rat_eq q
  have d := den_ne q
  have h' : (P : Rat) * ((q.den : Int) : Rat) = (q.num : Rat) * (S : Rat) := by rw [← Rat.intCast_mul, ← Rat.intCast_mul, h]
  generalize (q.num : Rat) = a at *
  generalize ((q.den : Int) : Rat) = b at *
  grind
theorem rt_bits {q : Rat} {P S : Int} {k m : Nat} (h : P * q.den = q.num * S) (hq : Sz k q) (hs : Bt m S) : Bt (k + m) P := by
  have e := congrArg Int.natAbs h
  rw [Int.natAbs_mul, Int.natAbs_mul] at e
  have d := den_pos' q
  have u : (q.num * S).natAbs < 2 ^ (k + m) := abs_prod hq.1 hs
  rw [Int.natAbs_mul] at u
  refine Nat.lt_of_le_of_lt ?_ u
  rw [← e]
  exact Nat.le_mul_of_pos_right _ (by omega)
theorem point_wide {i ln : Nat} (hi : fs[i]? = some (g_point_of ln)) (hl : fs[ln]? = some g_least_numbers) {p q r : Rat} {k : Nat} (hp : Sz k p) (hq : Sz k q) (hr : Sz k r) (hk : 4 * k ≤ 9000) (n : Nat) (st : Sto) :
    ∃ P Q R S : Int, callN gs fs (n + 2) i [.tup [fr p, fr q, fr r]] st = .ok (.tup [.int P, .int Q, .int R, .int S]) st ∧ PtR (4 * k) p q r P Q R S ∧ S ≤ (p.den : Int) * q.den * r.den := by
  have b0 := den_pos' p
  have d0 := den_pos' q
  have f0 := den_pos' r
  obtain ⟨P, Q, R, S, en, gn, s0, s1, h1, h2, h3⟩ := near_facts (a := p.num) (c := q.num) (e := r.num) b0 d0 f0
  have z0 : 0 < (p.den : Int) * q.den * r.den := Int.mul_pos (Int.mul_pos b0 d0) f0
  have w1 := (hp.d.mul hq.d).mul hr.d
  have bs : Bt (3 * k) S := by
    have w : ((p.den : Int) * q.den * r.den).natAbs < 2 ^ (k + k + k) := w1
    unfold Bt
    rw [show 3 * k = k + k + k from by omega]; omega
  refine ⟨P, Q, R, S, ?_, ⟨s0, gn, rt_rat h1, rt_rat h2, rt_rat h3, (rt_bits h1 hp bs).mono (by omega), (rt_bits h2 hq bs).mono (by omega), (rt_bits h3 hr bs).mono (by omega), bs.mono (by omega)⟩, s1⟩
  have pb := fdivOk_w (b := p.den) b0 hp.d (by omega)
  have pd := fdivOk_w (b := q.den) d0 hq.d (by omega)
  have pf := fdivOk_w (b := r.den) f0 hr.d (by omega)
  have m1 : (p.den : Int) * q.den * r.den / p.den = q.den * r.den := by rw [Int.mul_assoc, Int.mul_ediv_cancel_left _ (by omega)]
  have m2 : (p.den : Int) * q.den * r.den / q.den = p.den * r.den := by rw [Int.mul_comm (p.den : Int) q.den, Int.mul_assoc, Int.mul_ediv_cancel_left _ (by omega)]
  have m3 : (p.den : Int) * q.den * r.den / r.den = p.den * q.den := by rw [Int.mul_ediv_cancel _ (by omega)]
  have o1 := hp.n.ok (hq.d.mul hr.d) (by omega)
  have o2 := hq.n.ok (hp.d.mul hr.d) (by omega)
  have o3 := hr.n.ok (hp.d.mul hq.d) (by omega)
  have o4 := hp.d.ok hq.d (by omega)
  have o5 := (hp.d.mul hq.d).ok hr.d (by omega)
  obtain ⟨g0, g1⟩ := gcdl_pos (l := [p.num * ((q.den : Int) * r.den), q.num * ((p.den : Int) * r.den), r.num * ((p.den : Int) * q.den), (p.den : Int) * q.den * r.den]) (w := (p.den : Int) * q.den * r.den) (by simp) z0
  have l : callN gs fs (n + 1) ln [.tup [.int (p.num * ((q.den : Int) * r.den)), .int (q.num * ((p.den : Int) * r.den)), .int (r.num * ((p.den : Int) * q.den)), .int ((p.den : Int) * q.den * r.den)]] st = _ := least_wide (gs := gs) hl (k := 4 * k) hk (l := [p.num * ((q.den : Int) * r.den), q.num * ((p.den : Int) * r.den), r.num * ((p.den : Int) * q.den), (p.den : Int) * q.den * r.den]) (by simp) (by
    intro x hx
    simp only [List.mem_cons, List.not_mem_nil, or_false] at hx
    rcases hx with h | h | h | h <;> subst h
    · exact (hp.n.mul (hq.d.mul hr.d)).mono (by omega)
    · exact (hq.n.mul (hp.d.mul hr.d)).mono (by omega)
    · exact (hr.n.mul (hp.d.mul hq.d)).mono (by omega)
    · exact w1.mono (by omega)) g0 n st
  rw [show p.num * ((q.den : Int) * r.den) = p.num * q.den * r.den from by rw [Int.mul_assoc], show q.num * ((p.den : Int) * r.den) = q.num * p.den * r.den from by rw [Int.mul_assoc], show r.num * ((p.den : Int) * q.den) = r.num * p.den * q.den from by rw [Int.mul_assoc], en] at l
  rw [call_eq hi rfl]
  have l : callN gs fs (n + 1) ln [.tup [.int (p.num * q.den * r.den), .int (q.num * p.den * r.den), .int (r.num * p.den * q.den), .int ((p.den : Int) * q.den * r.den)]] st = .ok (.tup [.int P, .int Q, .int R, .int S]) st := l
  rw [Int.mul_assoc p.num, Int.mul_assoc q.num, Int.mul_assoc r.num] at l
  simp [g_point_of, evE_var, items, at0, at1, at2, fr, b_mul false o1, b_mul false o2, b_mul false o3, b_mul false o4, b_mul false o5, srcOf, wipe, compL_cons, compL_nil, compT, b_fdiv false pb, b_fdiv false pd, b_fdiv false pf, m1, m2, m3, mkL, lineOk, p_tupL, mkT, b_addT, l]
end
end Ev.L

/-! EvL26: forms that EvL left out: constants, defs as values, keywords, lengths, leaving loops. -/
namespace Ev.L
open PySem
section
variable {cl : Cl} {gs : Gv} {ar : Nat → Nat} {env : Env} {st : Sto}
@[simp] theorem ev_gv (i : Nat) : evE cl gs ar (.gv i) env st = toR gs[i]? st := by rw [evE] <;> rfl
@[simp] theorem ev_fnv (i : Nat) : evE cl gs ar (.fnv i) env st = .ok (.fn i) st := by rw [evE] <;> rfl
@[simp] theorem ev_callv (g : E) (es : Es) : evE cl gs ar (.callv g es) env st = (evE cl gs ar g env st).bind fun x st => match x with
    | .fn f => if ar f = 0 then (if isNilE es then cl f [] st else .bad) else (evEs cl gs ar es env st).bind fun vs st => cl f vs st
    | _ => .bad := by rw [evE] <;> rfl
@[simp] theorem ev_callk (f : Nat) (es : Es) (ks : List Nat) (kes : Es) : evE cl gs ar (.callk f es ks kes) env st = (evEs cl gs ar es env st).bind fun vs st => (evEs cl gs ar kes env st).bind fun ws st => cl f (pick (argI (ar f) vs.length ks) (vs ++ ws)) st := by rw [evE] <;> rfl
@[simp] theorem ev_lens (a : E) : evE cl gs ar (.lens a) env st = (evE cl gs ar a env st).bind fun x st => match (litems st x).bind intsV with
    | some ns => if decide (ns.length ≤ 4000) then .ok (.int (((ns.foldl PyProof.Rows.step_dedup []).length : Nat) : Int)) st else .bad
    | none => .bad := by rw [evE] <;> rfl
@[simp] theorem s_retN : evS cl gs ar .retN env st = .ret .non st := by rw [evS] <;> rfl
@[simp] theorem s_brk : evS cl gs ar .brk env st = .brk env st := by rw [evS] <;> rfl
@[simp] theorem s_cnt : evS cl gs ar .cnt env st = .cnt env st := by rw [evS] <;> rfl
@[simp] theorem s_pass : evS cl gs ar .pass env st = .next env st := by rw [evS] <;> rfl
@[simp] theorem then_brk (f : Env → Sto → F) : F.then (.brk env st) f = .brk env st := rfl
@[simp] theorem then_cnt (f : Env → Sto → F) : F.then (.cnt env st) f = .cnt env st := rfl
theorem c_eqSS (st : Sto) {x y : List Nat} (h : (x.all fun c => decide (c < 1114112)) = true) (h' : (y.all fun c => decide (c < 1114112)) = true) : cmpop st .eq (.str x) (.str y) = some (x == y) := by
  show (if (plain 60 (.str x) && plain 60 (.str y)) = true then _ else _) = _
  have e : plain 60 (.str x) = true := h
  have e' : plain 60 (.str y) = true := h'
  rw [e, e'] <;> rfl
theorem c_neSS (st : Sto) {x y : List Nat} (h : (x.all fun c => decide (c < 1114112)) = true) (h' : (y.all fun c => decide (c < 1114112)) = true) : cmpop st .ne (.str x) (.str y) = some (!(x == y)) := by
  show Option.map _ (if (plain 60 (.str x) && plain 60 (.str y)) = true then _ else _) = _
  have e : plain 60 (.str x) = true := h
  have e' : plain 60 (.str y) = true := h'
  rw [e, e'] <;> rfl
theorem c_in (st : Sto) {x : List Nat} (h : (x.all fun c => decide (c < 1114112)) = true) (ws : List PV) (h' : plains 59 ws = true) : cmpop st .isin (.str x) (.tup ws) = some (ws.any fun z => peq z (.str x)) := by
  show (if (plain 59 (.str x) && plains 59 ws) = true then _ else _) = _
  have e : plain 59 (.str x) = true := h
  rw [e, h'] <;> rfl
theorem meth_ext {i : Nat} {xs ys : List PV} (h : st[i]? = some xs) (hl : xs.length + ys.length ≤ 16777216) : meth st .extend (.ml i) [.pl ys] = .ok .non (st.set i (xs ++ ys)) := by
  show (match st[i]?, litems st (.pl ys) with | some xs, some ys => _ | _, _ => _) = _
  rw [h]
  show (if decide (xs.length + ys.length ≤ 16777216) = true then _ else _) = _
  rw [if_pos (by simp; omega)] <;> rfl
mutual
theorem froze_tree (n : Nat) (st : Sto) : ∀ (d : Nat) (v : PV), tree d v = true → ∀ k, froze n st k v = some v
  | _, .non, _, k => by cases k <;> rfl
  | _, .bl _, _, k => by cases k <;> rfl
  | _, .int _, _, k => by cases k <;> rfl
  | _, .str _, _, k => by cases k <;> rfl
  | d + 1, .tup xs, h, 0 => by rw [froze, tree_below n (d + 1) (.tup xs) h] <;> rfl
  | d + 1, .tup xs, h, k + 1 => by rw [froze, froze_trees n st d xs (Bool.and_eq_true_iff.mp h).2 k] <;> rfl
  | d + 1, .pl xs, h, 0 => by rw [froze, tree_below n (d + 1) (.pl xs) h] <;> rfl
  | d + 1, .pl xs, h, k + 1 => by rw [froze, froze_trees n st d xs (Bool.and_eq_true_iff.mp h).2 k] <;> rfl
  | 0, .tup _, h, _ => by cases h
  | 0, .pl _, h, _ => by cases h
  | 0, .scr _, h, _ => by cases h
  | _ + 1, .scr _, h, _ => by cases h
  | 0, .ml _, h, _ => by cases h
  | _ + 1, .ml _, h, _ => by cases h
  | 0, .fn _, h, _ => by cases h
  | _ + 1, .fn _, h, _ => by cases h
  | 0, .exn, h, _ => by cases h
  | _ + 1, .exn, h, _ => by cases h
  | 0, .dic _ _, h, _ => by cases h
  | _ + 1, .dic _ _, h, _ => by cases h
  | 0, .md _, h, _ => by cases h
  | _ + 1, .md _, h, _ => by cases h
theorem froze_trees (n : Nat) (st : Sto) : ∀ (d : Nat) (xs : List PV), xs.all (tree d) = true → ∀ k, mapO (froze n st k) xs = some xs
  | _, [], _, _ => rfl
  | d, x :: xs, h, k => by
    rw [List.all_cons, Bool.and_eq_true] at h
    rw [mapO, froze_tree n st d x h.1 k, froze_trees n st d xs h.2 k]
end
theorem belowAll_app {n : Nat} {st : Sto} (h : belowAll n st.length st = true) (ts : Sto) : belowAll n st.length (st ++ ts) = true := by
  induction st with
  | nil => cases ts <;> rfl
  | cons x st ih =>
    simp only [List.length_cons, List.cons_append, belowAll, Bool.and_eq_true] at h ⊢
    exact ⟨h.1, ih h.2⟩
/-- a def hands back its own list -/
theorem finish_list {st : Sto} (hc : Cln st) {d : Nat} {xs : List PV} (ht : xs.all (tree d) = true) : finish false st.length (.ret (.ml st.length) (st ++ [xs])) = .ok (.pl xs) st := by
  have h1 : belowAll st.length st.length (st ++ [xs]) = true := belowAll_app (hc.all _ _) _
  have h2 := froze_trees st.length (st ++ [xs]) d xs ht 7
  have h3 : (st ++ [xs])[st.length]? = some xs := by simp
  have h4 : froze st.length (st ++ [xs]) 8 (.ml st.length) = some (.pl xs) := by
    show (if st.length < st.length then _ else match (st ++ [xs])[st.length]? with | some xs => _ | none => _) = _
    rw [if_neg (by omega), h3]
    show Option.map PV.pl _ = _
    rw [h2] <;> rfl
  simp [finish, leave, h1, h4]
/-- .. or plain data beside it -/
theorem finish_drop {st ts : Sto} (hc : Cln st) {d : Nat} {v : PV} (ht : tree d v = true) : finish false st.length (.ret v (st ++ ts)) = .ok v st := by
  have h1 : belowAll st.length st.length (st ++ ts) = true := belowAll_app (hc.all _ _) _
  have h4 := froze_tree st.length (st ++ ts) d v ht 8
  cases ts with
  | nil => simp [finish, leave]
  | cons t ts => simp [finish, leave, h1, h4]
theorem tree_mono : ∀ (d : Nat) (v : PV), tree d v = true → ∀ e, d ≤ e → tree e v = true
  | 0, v, h, e, _ => by cases v <;> first | (cases h; done) | (cases e <;> exact h)
  | d + 1, v, h, e, he => by
    obtain ⟨e, rfl⟩ : ∃ k, e = k + 1 := ⟨e - 1, by omega⟩
    cases v with
    | tup xs =>
      obtain ⟨h1, h2⟩ := Bool.and_eq_true_iff.mp h
      exact Bool.and_eq_true_iff.mpr ⟨h1, List.all_eq_true.mpr fun x hx => tree_mono d x (List.all_eq_true.mp h2 x hx) e (by omega)⟩
    | pl xs =>
      obtain ⟨h1, h2⟩ := Bool.and_eq_true_iff.mp h
      exact Bool.and_eq_true_iff.mpr ⟨h1, List.all_eq_true.mpr fun x hx => tree_mono d x (List.all_eq_true.mp h2 x hx) e (by omega)⟩
    | _ => first | (cases h; done) | exact h
/-- trees of tuples alone -/
def tups : Nat → PV → Bool
  | _, .non => true
  | _, .bl _ => true
  | _, .int _ => true
  | _, .str x => x.all fun c => decide (c < 1114112)
  | d + 1, .tup xs => lineOk xs && xs.all (tups d)
  | _, _ => false
theorem tups_mono : ∀ (d : Nat) (v : PV), tups d v = true → ∀ e, d ≤ e → tups e v = true
  | 0, v, h, e, _ => by cases v <;> first | (cases h; done) | (cases e <;> exact h)
  | d + 1, v, h, e, he => by
    obtain ⟨e, rfl⟩ : ∃ k, e = k + 1 := ⟨e - 1, by omega⟩
    cases v with
    | tup xs =>
      obtain ⟨h1, h2⟩ := Bool.and_eq_true_iff.mp h
      exact Bool.and_eq_true_iff.mpr ⟨h1, List.all_eq_true.mpr fun x hx => tups_mono d x (List.all_eq_true.mp h2 x hx) e (by omega)⟩
    | _ => first | (cases h; done) | exact h
theorem tups_tree : ∀ (d : Nat) (v : PV), tups d v = true → tree d v = true
  | 0, v, h => by cases v <;> first | (cases h; done) | exact h
  | d + 1, v, h => by
    cases v with
    | tup xs =>
      obtain ⟨h1, h2⟩ := Bool.and_eq_true_iff.mp h
      exact Bool.and_eq_true_iff.mpr ⟨h1, List.all_eq_true.mpr fun x hx => tups_tree d x (List.all_eq_true.mp h2 x hx)⟩
    | _ => first | (cases h; done) | exact h
/-- in lists, and back as tuples -/
theorem tups_back : ∀ (d : Nat) (v : PV), tups d v = true → tree d (listz d v) = true ∧ tupz d (listz d v) = v
  | 0, v, h => by cases v <;> first | (cases h; done) | exact ⟨h, rfl⟩
  | d + 1, v, h => by
    cases v with
    | tup xs =>
      obtain ⟨h1, h2⟩ := Bool.and_eq_true_iff.mp h
      have ih := fun x hx => tups_back d x (List.all_eq_true.mp h2 x hx)
      refine ⟨Bool.and_eq_true_iff.mpr ⟨by simpa [lineOk] using h1, ?_⟩, ?_⟩
      · rw [List.all_map, List.all_eq_true]
        exact fun x hx => (ih x hx).1
      · show PV.tup _ = _
        congr 1
        rw [List.map_map]
        conv => rhs; rw [← List.map_id xs]
        exact List.map_congr_left fun x hx => (ih x hx).2
    | _ => first | (cases h; done) | exact ⟨h, rfl⟩
theorem sIx_nat {n k : Nat} (d : Nat) (h : k ≤ n) : HT.sIx n d (some (k : Int)) = k := by
  show (if (k : Int) < 0 then ((k : Int) + n).toNat else min (k : Int).toNat n) = k
  rw [if_neg (by omega)]; omega
theorem at_nat {xs : List PV} {k : Nat} (h : k < xs.length) : atI xs (k : Int) = some xs[k] := by
  simp [atI, ixN, h]
theorem range_nat (c : Nat) (h : c ≤ 1000000) : rangeOf [.int (c : Nat)] = some ((List.range c).map fun (j : Nat) => .int j) := by
  simp only [rangeOf]
  rw [if_pos (by simp; omega), upto_map]
  simp
/-- a range up to a number that is not known: the number must stay a bare Int (m) in the goal, for the kernel counts to 2^62 on a Nat -/
theorem it_rng {cl : Cl} {gs : Gv} {ar : Nat → Nat} {env : Env} {st : Sto} {es : Es} {m : Int} (h : evEs cl gs ar es env st = .ok [.int m] st) {c : Nat} (hm : m = c) (hc : c ≤ 1000000) : evIt cl gs ar (.range es) env st = .ok ((List.range c).map fun (j : Nat) => .int j, []) st := by
  have q : rangeOf [.int m] = some ((List.range c).map fun (j : Nat) => .int j) := by rw [hm]; exact range_nat c hc
  rw [it_range, h, bind_ok, q] <;> rfl
theorem set_app (st : Sto) (xs ys : List PV) : (st ++ [xs]).set st.length ys = st ++ [ys] := by simp
theorem get_app (st : Sto) (xs : List PV) : (st ++ [xs])[st.length]? = some xs := by simp
end
end Ev.L

/-! EvL27: lines: rows of triples, ascending; put together; no program in sight. -/
namespace Ev.L
open PySem
/-- a for over what its source comes to (no dsimp: a kernel that looks into a range counts) -/
theorem s_for_it {cl : Cl} {gs : Gv} {ar : Nat → Nat} {env : Env} {st st' : Sto} {t : Tg} {it : It} {b : Ss} {xs : List PV} {ks : List (Nat × List PV)} (h : evIt cl gs ar it env st = .ok (xs, ks) st') : evS cl gs ar (.for_ t it b) env st = forL cl gs ar ks t b xs env st' := by
  rw [s_for, h] <;> rfl
abbrev Tr := Rat × Bool × Bool
def tr (x : Tr) : PV := .tup [fr x.1, .bl x.2.1, .bl x.2.2]
def look : List Tr → Rat → Bool × Bool → Bool × Bool
  | [], _, o => o
  | x :: l, t, o => look l t (if t < x.1 then o else (if x.1 = t then x.2.1 else x.2.2, x.2.2))
abbrev Asc (l : List Rat) : Prop := l.Pairwise (· < ·)
abbrev ts (l : List Tr) : List Rat := l.map (·.1)
theorem look_lt : ∀ (l : List Tr) (t : Rat) (o : Bool × Bool), (∀ x ∈ l, t < x.1) → look l t o = o
  | [], _, _, _ => rfl
  | x :: l, t, o, h => by
    rw [look, if_pos (h x (by simp))]
    exact look_lt l t o fun y hy => h y (by simp [hy])
def kept : Option Bool → List Tr → List Tr
  | _, [] => []
  | o, x :: l => if o = some x.2.1 ∧ o = some x.2.2 then kept o l else x :: kept (some x.2.2) l
def turns : Option Bool → List Tr → Prop
  | _, [] => True
  | o, x :: l => ¬ (o = some x.2.1 ∧ o = some x.2.2) ∧ turns (some x.2.2) l
theorem kept_turns : ∀ (l : List Tr) (o : Option Bool), turns o (kept o l)
  | [], _ => trivial
  | x :: l, o => by
    rw [kept]
    split
    · exact kept_turns l o
    · rename_i h
      exact ⟨h, kept_turns l _⟩
theorem kept_sub : ∀ (l : List Tr) (o : Option Bool), List.Sublist (kept o l) l
  | [], _ => List.Sublist.slnil
  | x :: l, o => by
    rw [kept]
    split
    · exact List.Sublist.cons _ (kept_sub l o)
    · exact List.Sublist.cons₂ _ (kept_sub l _)
/-! two lines woven -/
abbrev Qu := Rat × (Bool × Bool) × (Bool × Bool)
def weave : Nat → List Tr → List Tr → Bool → Bool → List Qu
  | 0, _, _, _, _ => []
  | _ + 1, [], [], _, _ => []
  | n + 1, x :: u, [], _, d => (x.1, x.2, (d, d)) :: weave n u [] x.2.2 d
  | n + 1, [], y :: v, b, _ => (y.1, (b, b), y.2) :: weave n [] v b y.2.2
  | n + 1, x :: u, y :: v, b, d => if x.1 < y.1 then (x.1, x.2, (d, d)) :: weave n u (y :: v) x.2.2 d else if y.1 < x.1 then (y.1, (b, b), y.2) :: weave n (x :: u) v b y.2.2 else (x.1, x.2, y.2) :: weave n u v x.2.2 y.2.2
def Woven (u v : List Tr) (b d : Bool) (w : List Qu) : Prop := (∀ z ∈ w, z.2.1 = look u z.1 (b, b) ∧ z.2.2 = look v z.1 (d, d)) ∧ Asc (w.map (·.1)) ∧ ∀ t, t ∈ w.map (·.1) ↔ t ∈ ts u ∨ t ∈ ts v
theorem look_at {x : Tr} {u : List Tr} (h : Asc (ts (x :: u))) (o : Bool × Bool) : look (x :: u) x.1 o = x.2 := by
  rw [look, if_neg (Rat.lt_irrefl), if_pos rfl]
  exact look_lt u _ _ fun y hy => (List.pairwise_cons.mp h).1 _ (List.mem_map_of_mem hy)
theorem look_on {x : Tr} {u : List Tr} {t : Rat} (h : x.1 < t) (o : Bool × Bool) : look (x :: u) t o = look u t (x.2.2, x.2.2) := by
  rw [look, if_neg (by grind), if_neg (by grind)]
theorem weave_ok : ∀ (n : Nat) (u v : List Tr) (b d : Bool), Asc (ts u) → Asc (ts v) → u.length + v.length ≤ n → Woven u v b d (weave n u v b d)
  | 0, u, v, b, d, _, _, hn => by
    have hu : u = [] := List.eq_nil_of_length_eq_zero (by omega)
    have hv : v = [] := List.eq_nil_of_length_eq_zero (by omega)
    subst hu hv
    exact ⟨by simp [weave], by simp [weave], by simp [weave, ts]⟩
  | n + 1, [], [], b, d, _, _, _ => ⟨by simp [weave], by simp [weave], by simp [weave, ts]⟩
  | n + 1, x :: u, [], b, d, hu, hv, hn => by
    obtain ⟨hx, hu'⟩ := List.pairwise_cons.mp hu
    obtain ⟨i1, i2, i3⟩ := weave_ok n u [] x.2.2 d hu' hv (by simp at hn ⊢; omega)
    have gt : ∀ t ∈ (weave n u [] x.2.2 d).map (·.1), x.1 < t := fun t ht => by
      rcases (i3 t).mp ht with h | h
      · exact hx t h
      · cases h
    refine ⟨?_, ?_, ?_⟩
    · intro z hz
      rw [weave] at hz
      rcases List.mem_cons.mp hz with e | hz
      · subst e
        exact ⟨(look_at hu _).symm, rfl⟩
      · have := gt z.1 (List.mem_map_of_mem hz)
        rw [look_on this]
        exact i1 z hz
    · rw [weave, List.map_cons]
      exact List.pairwise_cons.mpr ⟨gt, i2⟩
    · intro t
      rw [weave, List.map_cons, List.mem_cons, i3 t]
      simp [ts]
  | n + 1, [], y :: v, b, d, hu, hv, hn => by
    obtain ⟨hy, hv'⟩ := List.pairwise_cons.mp hv
    obtain ⟨i1, i2, i3⟩ := weave_ok n [] v b y.2.2 hu hv' (by simp at hn ⊢; omega)
    have gt : ∀ t ∈ (weave n [] v b y.2.2).map (·.1), y.1 < t := fun t ht => by
      rcases (i3 t).mp ht with h | h
      · cases h
      · exact hy t h
    refine ⟨?_, ?_, ?_⟩
    · intro z hz
      rw [weave] at hz
      rcases List.mem_cons.mp hz with e | hz
      · subst e
        exact ⟨rfl, (look_at hv _).symm⟩
      · have := gt z.1 (List.mem_map_of_mem hz)
        rw [look_on this]
        exact i1 z hz
    · rw [weave, List.map_cons]
      exact List.pairwise_cons.mpr ⟨gt, i2⟩
    · intro t
      rw [weave, List.map_cons, List.mem_cons, i3 t]
      simp [ts]
  | n + 1, x :: u, y :: v, b, d, hu, hv, hn => by
    obtain ⟨hx, hu'⟩ := List.pairwise_cons.mp hu
    obtain ⟨hy, hv'⟩ := List.pairwise_cons.mp hv
    simp only [List.length_cons] at hn
    by_cases h1 : x.1 < y.1
    · obtain ⟨i1, i2, i3⟩ := weave_ok n u (y :: v) x.2.2 d hu' hv (by simp; omega)
      have gt : ∀ t ∈ (weave n u (y :: v) x.2.2 d).map (·.1), x.1 < t := fun t ht => by
        rcases (i3 t).mp ht with h | h
        · exact hx t h
        · rcases List.mem_cons.mp h with h | h
          · rw [h]; exact h1
          · have := hy t h; grind
      rw [weave, if_pos h1]
      refine ⟨?_, ?_, ?_⟩
      · intro z hz
        rcases List.mem_cons.mp hz with e | hz
        · subst e
          refine ⟨(look_at hu _).symm, (look_lt _ _ _ ?_).symm⟩
          intro w hw
          rcases List.mem_cons.mp hw with e | hw
          · rw [e]; exact h1
          · have := hy w.1 (List.mem_map_of_mem hw)
            show x.1 < w.1
            grind
        · have := gt z.1 (List.mem_map_of_mem hz)
          rw [look_on this]
          exact i1 z hz
      · rw [List.map_cons]
        exact List.pairwise_cons.mpr ⟨gt, i2⟩
      · intro t
        rw [List.map_cons, List.mem_cons, i3 t]
        simp only [ts, List.map_cons, List.mem_cons]
        grind
    · by_cases h2 : y.1 < x.1
      · obtain ⟨i1, i2, i3⟩ := weave_ok n (x :: u) v b y.2.2 hu hv' (by simp; omega)
        have gt : ∀ t ∈ (weave n (x :: u) v b y.2.2).map (·.1), y.1 < t := fun t ht => by
          rcases (i3 t).mp ht with h | h
          · rcases List.mem_cons.mp h with h | h
            · rw [h]; exact h2
            · have := hx t h; grind
          · exact hy t h
        rw [weave, if_neg h1, if_pos h2]
        refine ⟨?_, ?_, ?_⟩
        · intro z hz
          rcases List.mem_cons.mp hz with e | hz
          · subst e
            refine ⟨(look_lt _ _ _ ?_).symm, (look_at hv _).symm⟩
            intro w hw
            rcases List.mem_cons.mp hw with e | hw
            · rw [e]; exact h2
            · have := hx w.1 (List.mem_map_of_mem hw)
              show y.1 < w.1
              grind
          · have := gt z.1 (List.mem_map_of_mem hz)
            rw [look_on this]
            exact i1 z hz
        · rw [List.map_cons]
          exact List.pairwise_cons.mpr ⟨gt, i2⟩
        · intro t
          rw [List.map_cons, List.mem_cons, i3 t]
          simp only [ts, List.map_cons, List.mem_cons]
          grind
      · have e : x.1 = y.1 := by grind
        obtain ⟨i1, i2, i3⟩ := weave_ok n u v x.2.2 y.2.2 hu' hv' (by omega)
        have gt : ∀ t ∈ (weave n u v x.2.2 y.2.2).map (·.1), x.1 < t := fun t ht => by
          rcases (i3 t).mp ht with h | h
          · exact hx t h
          · rw [e]; exact hy t h
        rw [weave, if_neg h1, if_neg h2]
        refine ⟨?_, ?_, ?_⟩
        · intro z hz
          rcases List.mem_cons.mp hz with e' | hz
          · subst e'
            refine ⟨(look_at hu _).symm, ?_⟩
            show y.2 = look (y :: v) x.1 (d, d)
            rw [e]; exact (look_at hv _).symm
          · have g := gt z.1 (List.mem_map_of_mem hz)
            rw [look_on g, look_on (by rw [← e]; exact g)]
            exact i1 z hz
        · rw [List.map_cons]
          exact List.pairwise_cons.mpr ⟨gt, i2⟩
        · intro t
          rw [List.map_cons, List.mem_cons, i3 t]
          simp only [ts, List.map_cons, List.mem_cons]
          grind
/-! rows of numbers, ascending, each once -/
theorem asc_eq : ∀ (l m : List Rat), Asc l → Asc m → (∀ t, t ∈ l ↔ t ∈ m) → l = m
  | [], [], _, _, _ => rfl
  | [], y :: m, _, _, h => absurd ((h y).mpr (by simp)) (by simp)
  | x :: l, [], _, _, h => absurd ((h x).mp (by simp)) (by simp)
  | x :: l, y :: m, hl, hm, h => by
    obtain ⟨h1, h2⟩ := List.pairwise_cons.mp hl
    obtain ⟨h3, h4⟩ := List.pairwise_cons.mp hm
    have e : x = y := by
      rcases List.mem_cons.mp ((h x).mp (by simp)) with e | hx
      · exact e
      · rcases List.mem_cons.mp ((h y).mpr (by simp)) with e | hy
        · exact e.symm
        · have := h1 y hy
          have := h3 x hx
          grind
    subst e
    rw [asc_eq l m h2 h4 fun t => ?_]
    constructor
    · intro ht
      rcases List.mem_cons.mp ((h t).mp (by simp [ht])) with e | k
      · subst e
        have := h1 t ht
        grind
      · exact k
    · intro ht
      rcases List.mem_cons.mp ((h t).mpr (by simp [ht])) with e | k
      · subst e
        have := h3 t ht
        grind
      · exact k
def insQ (q : Rat) (l : List Rat) : List Rat := l.take (l.countP (decide <| · < q)) ++ [q] ++ l.drop (l.countP (decide <| · < q))
theorem insQ_mem (q : Rat) (l : List Rat) (t : Rat) : t ∈ insQ q l ↔ t = q ∨ t ∈ l := by
  have e := List.take_append_drop (l.countP (decide <| · < q)) l
  unfold insQ
  conv => rhs; rw [← e]
  simp only [List.mem_append, List.mem_cons, List.not_mem_nil, or_false]
  grind
theorem insQ_asc (q : Rat) : ∀ (l : List Rat), Asc l → q ∉ l → Asc (insQ q l)
  | [], _, _ => by simp [insQ]
  | x :: l, h, nq => by
    obtain ⟨h1, h2⟩ := List.pairwise_cons.mp h
    by_cases hx : x < q
    · have e : insQ q (x :: l) = x :: insQ q l := by
        unfold insQ
        rw [List.countP_cons_of_pos (by simpa using hx)]
        simp
      rw [e]
      refine List.pairwise_cons.mpr ⟨?_, insQ_asc q l h2 fun k => nq (by simp [k])⟩
      intro t ht
      rcases (insQ_mem q l t).mp ht with k | k
      · rw [k]; exact hx
      · exact h1 t k
    · have z : (x :: l).countP (decide <| · < q) = 0 := by
        rw [List.countP_eq_zero]
        intro t ht
        rcases List.mem_cons.mp ht with k | k
        · rw [k]; simpa using hx
        · have := h1 t k
          simp only [decide_eq_true_eq]
          grind
      unfold insQ
      rw [z]
      refine List.pairwise_cons.mpr ⟨?_, h⟩
      intro t ht
      have nx : q ≠ x := fun e => nq (by simp [e])
      rcases List.mem_cons.mp ht with k | k
      · rw [k]; grind
      · have := h1 t k; grind
def rank : List Rat → List Rat → List Rat
  | acc, [] => acc
  | acc, q :: l => rank (if q ∈ acc then acc else insQ q acc) l
theorem rank_ok : ∀ (l acc : List Rat), Asc acc → Asc (rank acc l) ∧ ∀ t, t ∈ rank acc l ↔ t ∈ acc ∨ t ∈ l
  | [], acc, h => ⟨h, fun t => by simp [rank]⟩
  | q :: l, acc, h => by
    rw [rank]
    by_cases hq : q ∈ acc
    · rw [if_pos hq]
      obtain ⟨i1, i2⟩ := rank_ok l acc h
      refine ⟨i1, fun t => ?_⟩
      rw [i2 t, List.mem_cons]
      grind
    · rw [if_neg hq]
      obtain ⟨i1, i2⟩ := rank_ok l (insQ q acc) (insQ_asc q acc h hq)
      refine ⟨i1, fun t => ?_⟩
      rw [i2 t, insQ_mem, List.mem_cons]
      grind
theorem rank_len : ∀ (l acc : List Rat), (rank acc l).length ≤ acc.length + l.length
  | [], acc => by simp [rank]
  | q :: l, acc => by
    rw [rank]
    have h := rank_len l (if q ∈ acc then acc else insQ q acc)
    have k : (if q ∈ acc then acc else insQ q acc).length ≤ acc.length + 1 := by
      split
      · omega
      · unfold insQ
        have := congrArg List.length (List.take_append_drop (acc.countP (decide <| · < q)) acc)
        simp only [List.length_append, List.length_cons, List.length_nil] at this ⊢
        omega
    simp only [List.length_cons]
    omega
end Ev.L

/-! EvL28: the equations of the later forms. -/
namespace Ev.L
open PySem
section
variable {cl : Cl} {gs : Gv} {ar : Nat → Nat} {env : Env} {st : Sto}
@[simp] theorem ev_sset (m : Bool) (a : E) : evE cl gs ar (.sset m a) env st = (evE cl gs ar a env st).bind fun x st => match (litems st x).bind rowsV with
    | some rows => if decide (rows.length < 64) && (rows.all fun r => !r.isEmpty) then mkL m ((sortI rows).map tupI) st else .bad
    | none => .bad := by rw [evE] <;> rfl
@[simp] theorem args_sset_ (m : Bool) (a : E) (r : Es) : evEs cl gs ar (.cons (.sset m a) r) env st = (evE cl gs ar (.sset m a) env st).bind fun v st => (evEs cl gs ar r env st).bind fun vs st => .ok (v :: vs) st := args_cons r rfl
@[simp] theorem args_lens_ (a : E) (r : Es) : evEs cl gs ar (.cons (.lens a) r) env st = (evE cl gs ar (.lens a) env st).bind fun v st => (evEs cl gs ar r env st).bind fun vs st => .ok (v :: vs) st := args_cons r rfl
theorem meth_extT {i : Nat} {xs ys : List PV} (h : st[i]? = some xs) (hl : xs.length + ys.length ≤ 16777216) : meth st .extend (.ml i) [.tup ys] = .ok .non (st.set i (xs ++ ys)) := by
  show (match st[i]?, xitems st (.tup ys) with | some xs, some ys => _ | _, _ => _) = _
  rw [h]
  show (if decide (xs.length + ys.length ≤ 16777216) = true then _ else _) = _
  rw [if_pos (by simp; omega)] <;> rfl
theorem meth_popAt {i : Nat} {xs : List PV} {j : Int} (h : st[i]? = some xs) (hl : xs.length ≤ 16777216) (h0 : 0 ≤ j) (h1 : j < xs.length) : ∃ y ∈ xs, xs[j.toNat]? = some y ∧ meth st .popAt (.ml i) [.int j] = .ok y (st.set i (xs.eraseIdx j.toNat)) := by
  have h2 : j.toNat < xs.length := by omega
  refine ⟨xs[j.toNat], List.getElem_mem h2, List.getElem?_eq_getElem h2, ?_⟩
  show (match st[i]? with | some xs => _ | none => _) = _
  rw [h]
  show (if decide (xs.length ≤ 16777216) = true then _ else _) = _
  rw [if_pos (decide_eq_true hl)]
  have e : ixN xs.length j = some j.toNat := by unfold ixN; rw [if_pos h0, if_pos h1]
  rw [e]
  show (match xs[j.toNat]? with | some y => _ | none => _) = _
  rw [List.getElem?_eq_getElem h2]
end
end Ev.L

/-! EvL29: one line for one meaning: lines by what is looked at; no program in sight. -/
namespace Ev.L
open PySem
abbrev Meaning := Rat → Bool × Bool
/-- a line's meaning -/
def lkl (l : List Tr) : Meaning := fun t => look l t (false, false)
/-- one form of lines -/
structure Cn (l : List Tr) : Prop where
  head : ∃ a b r, l = (0, a, b) :: r
  asc : Asc (ts l)
  tur : turns none l
/-- what is so behind each of the times stays so until the next one -/
def Steady (F : Meaning) (T : List Rat) : Prop := ∀ t t', 0 ≤ t → t < t' → (∀ s ∈ T, ¬ (t < s ∧ s ≤ t')) → F t' = ((F t).2, (F t).2)
def rowsOf (F : Meaning) (T : List Rat) : List Tr := T.map fun t => (t, F t)
theorem ts_rows (F : Meaning) (T : List Rat) : ts (rowsOf F T) = T := by
  unfold ts rowsOf
  rw [List.map_map]
  conv => rhs; rw [← List.map_id T]
  rfl
theorem look_rows {F : Meaning} : ∀ (r : List Rat) (x t : Rat) (o : Bool × Bool), Asc (x :: r) → (∀ u u', x ≤ u → u < u' → (∀ s ∈ x :: r, ¬ (u < s ∧ s ≤ u')) → F u' = ((F u).2, (F u).2)) → x ≤ t → look (rowsOf F (x :: r)) t o = F t
  | r, x, t, o, ha, hs, hx => by
    have ha' : Asc (ts (rowsOf F (x :: r))) := by rw [ts_rows]; exact ha
    obtain ⟨h1, h2⟩ := List.pairwise_cons.mp ha
    by_cases h : t = x
    · subst h
      exact look_at (x := (t, F t)) ha' o
    · have lt : x < t := by grind
      have e1 : look (rowsOf F (x :: r)) t o = look (rowsOf F r) t ((F x).2, (F x).2) := look_on (x := (x, F x)) lt o
      rw [e1]
      match r, h1, h2, hs with
      | [], _, _, hs => exact (hs x t (by grind) lt (fun s hm k => by
          have : s = x := by simpa using hm
          subst this; grind)).symm
      | y :: r, h1, h2, hs =>
        by_cases hy : y ≤ t
        · refine look_rows r y t _ h2 (fun u u' hu hl hn => hs u u' (by have := h1 y (by simp); grind) hl fun s hm k => ?_) hy
          rcases List.mem_cons.mp hm with e | e
          · subst e
            have := h1 y (by simp)
            grind
          · exact hn s e k
        · rw [look_lt]
          · refine (hs x t (by grind) lt ?_).symm
            intro s hm ⟨k1, k2⟩
            rcases List.mem_cons.mp hm with e | e
            · subst e; grind
            · rcases List.mem_cons.mp e with e' | e'
              · subst e'; exact hy k2
              · have := (List.pairwise_cons.mp h2).1 s e'
                grind
          · intro z hz
            obtain ⟨s, hm, rfl⟩ := List.mem_map.mp hz
            show t < s
            rcases List.mem_cons.mp hm with e' | e'
            · subst e'; grind
            · have := (List.pairwise_cons.mp h2).1 s e'
              grind
/-- thinned, with the same meaning -/
theorem look_kept : ∀ (l : List Tr) (b : Bool) (t : Rat), Asc (ts l) → look (kept (some b) l) t (b, b) = look l t (b, b)
  | [], _, _, _ => rfl
  | x :: l, b, t, ha => by
    obtain ⟨h1, h2⟩ := List.pairwise_cons.mp ha
    rw [kept]
    split
    · rename_i h
      have e1 : x.2.1 = b := (Option.some.inj h.1).symm
      have e2 : x.2.2 = b := (Option.some.inj h.2).symm
      have e : look (x :: l) t (b, b) = look l t (b, b) := by
        rw [look, e1, e2]
        split
        · rfl
        · simp
      rw [e]
      exact look_kept l b t h2
    · rw [look, look]
      have sub : ∀ z ∈ kept (some x.2.2) l, z ∈ l := fun z hz => (kept_sub l _).subset hz
      by_cases c : t < x.1
      · rw [if_pos c, look_lt, look_lt]
        · intro z hz
          have := h1 z.1 (List.mem_map_of_mem hz)
          grind
        · intro z hz
          have := h1 z.1 (List.mem_map_of_mem (sub z hz))
          grind
      · rw [if_neg c]
        by_cases d : x.1 = t
        · rw [if_pos d, look_lt, look_lt]
          · intro z hz
            have := h1 z.1 (List.mem_map_of_mem hz)
            grind
          · intro z hz
            have := h1 z.1 (List.mem_map_of_mem (sub z hz))
            grind
        · rw [if_neg d]
          exact look_kept l x.2.2 t h2
theorem look_keptN {x : Tr} {l : List Tr} (ha : Asc (ts (x :: l))) {t : Rat} (ht : x.1 ≤ t) (o o' : Bool × Bool) : look (kept none (x :: l)) t o = look (x :: l) t o' := by
  obtain ⟨h1, h2⟩ := List.pairwise_cons.mp ha
  have e : kept none (x :: l) = x :: kept (some x.2.2) l := by rw [kept]; simp
  have c : ¬ t < x.1 := by grind
  rw [e, look, look, if_neg c, if_neg c]
  by_cases d : x.1 = t
  · rw [if_pos d, look_lt, look_lt]
    · intro z hz
      have := h1 z.1 (List.mem_map_of_mem hz)
      grind
    · intro z hz
      have := h1 z.1 (List.mem_map_of_mem ((kept_sub l _).subset hz))
      grind
  · rw [if_neg d]
    exact look_kept l x.2.2 t h2
theorem asc_sub {l m : List Tr} (h : List.Sublist l m) (ha : Asc (ts m)) : Asc (ts l) := List.Pairwise.sublist (h.map _) ha
/-- rows at times from 0 on, thinned: one form, the meaning -/
theorem cn_rows {F : Meaning} {r : List Rat} (ha : Asc (0 :: r)) (hs : Steady F (0 :: r)) : Cn (kept none (rowsOf F (0 :: r))) ∧ ∀ t, 0 ≤ t → lkl (kept none (rowsOf F (0 :: r))) t = F t := by
  have ha' : Asc (ts (rowsOf F (0 :: r))) := by rw [ts_rows]; exact ha
  have e : kept none (rowsOf F (0 :: r)) = (0, F 0) :: kept (some (F 0).2) (rowsOf F r) := by
    show kept none ((0, F 0) :: rowsOf F r) = _
    rw [kept]; simp
  refine ⟨⟨⟨(F 0).1, (F 0).2, _, e⟩, asc_sub (kept_sub _ _) ha', kept_turns _ _⟩, fun t t0 => ?_⟩
  show look (kept none ((0, F 0) :: rowsOf F r)) t _ = _
  rw [look_keptN (x := (0, F 0)) (l := rowsOf F r) ha' (show (0 : Rat) ≤ t from t0) _ (false, false)]
  exact look_rows r 0 t _ ha hs t0
/-- times put in between change nothing -/
theorem kept_more : ∀ (T : List Rat) (l : List Tr) (b : Bool), Asc T → Asc (ts l) → (∀ x ∈ l, x.1 ∈ T) → turns (some b) l → kept (some b) (T.map fun t => (t, look l t (b, b))) = l
  | [], [], _, _, _, _, _ => rfl
  | [], x :: l, _, _, _, h, _ => absurd (h x (by simp)) (by simp)
  | t :: T, l, b, hT, hl, hm, ht => by
    obtain ⟨t1, t2⟩ := List.pairwise_cons.mp hT
    by_cases c : ∃ x r, l = x :: r ∧ x.1 = t
    · obtain ⟨x, r, rfl, rfl⟩ := c
      obtain ⟨h1, h2⟩ := List.pairwise_cons.mp hl
      rw [List.map_cons, look_at hl]
      have n : ¬ (some b = some x.2.1 ∧ some b = some x.2.2) := ht.1
      rw [kept, if_neg (show ¬ (some b = some ((x.1, x.2) : Tr).2.1 ∧ some b = some ((x.1, x.2) : Tr).2.2) from n)]
      have e : (T.map fun t => (t, look (x :: r) t (b, b))) = T.map fun t => (t, look r t (x.2.2, x.2.2)) := List.map_congr_left fun s hs => by
        rw [look_on (t1 s hs)]
      rw [e]
      show x :: kept (some x.2.2) _ = _
      rw [kept_more T r x.2.2 t2 h2 (fun y hy => ?_) ht.2]
      have := hm y (by simp [hy])
      rcases List.mem_cons.mp this with e | e
      · have := h1 y.1 (List.mem_map_of_mem hy)
        rw [e] at this
        exact absurd this Rat.lt_irrefl
      · exact e
    · have lt : ∀ x ∈ l, t < x.1 := fun x hx => by
        rcases List.mem_cons.mp (hm x hx) with e | e
        · match l, c, hl, hx with
          | y :: r, c, hl, hx =>
            rcases List.mem_cons.mp hx with e2 | e2
            · exact absurd ⟨y, r, rfl, by rw [← e2]; exact e⟩ c
            · have h1 := (List.pairwise_cons.mp hl).1 x.1 (List.mem_map_of_mem e2)
              have h2 := hm y (by simp)
              rcases List.mem_cons.mp h2 with e3 | e3
              · exact absurd ⟨y, r, rfl, e3⟩ c
              · have := t1 y.1 e3
                grind
        · exact t1 x.1 e
      rw [List.map_cons, look_lt l t (b, b) lt, kept, if_pos ⟨rfl, rfl⟩]
      refine kept_more T l b t2 hl (fun x hx => ?_) ht
      rcases List.mem_cons.mp (hm x hx) with e | e
      · have := lt x hx
        rw [e] at this
        exact absurd this Rat.lt_irrefl
      · exact e
theorem cn_more {l : List Tr} (h : Cn l) {r : List Rat} (hT : Asc (0 :: r)) (hm : ∀ x ∈ l, x.1 ∈ 0 :: r) : kept none (rowsOf (lkl l) (0 :: r)) = l := by
  obtain ⟨a, b, l', rfl⟩ := h.head
  obtain ⟨h1, h2⟩ := List.pairwise_cons.mp h.asc
  obtain ⟨t1, t2⟩ := List.pairwise_cons.mp hT
  have e0 : lkl ((0, a, b) :: l') 0 = (a, b) := look_at h.asc _
  show kept none ((0, lkl ((0, a, b) :: l') 0) :: rowsOf (lkl ((0, a, b) :: l')) r) = _
  rw [e0, kept, if_neg (by simp)]
  have e : rowsOf (lkl ((0, a, b) :: l')) r = r.map fun t => (t, look l' t (b, b)) := List.map_congr_left fun s hs => by
    show (s, look ((0, a, b) :: l') s (false, false)) = _
    rw [look_on (x := (0, a, b)) (t1 s hs)]
  rw [e]
  show (0, a, b) :: kept (some b) _ = _
  rw [kept_more r l' b t2 h2 (fun x hx => ?_) h.tur.2]
  rcases List.mem_cons.mp (hm x (by simp [hx])) with e | e
  · have := h1 x.1 (List.mem_map_of_mem hx)
    rw [e] at this
    exact absurd this Rat.lt_irrefl
  · exact e
theorem cn_pos {l : List Tr} (h : Cn l) : ∀ x ∈ l, 0 ≤ x.1 := fun x hx => by
  obtain ⟨a, b, r, rfl⟩ := h.head
  rcases List.mem_cons.mp hx with e | k
  · rw [e]; exact Rat.le_refl
  · have := (List.pairwise_cons.mp h.asc).1 x.1 (List.mem_map_of_mem k)
    grind
/-- times from 0 on, ranked, begin with 0 -/
theorem rank_zero {l : List Rat} (h0 : (0 : Rat) ∈ l) (hp : ∀ t ∈ l, 0 ≤ t) : ∃ r, rank [] l = 0 :: r ∧ Asc (0 :: r) ∧ ∀ t, t ∈ 0 :: r ↔ t ∈ l := by
  obtain ⟨a1, a2⟩ := rank_ok l [] (by simp)
  have m : ∀ t, t ∈ rank [] l ↔ t ∈ l := fun t => by rw [a2]; simp
  match hr : rank [] l with
  | [] => rw [hr] at m; exact absurd ((m 0).mpr h0) (by simp)
  | x :: r =>
    rw [hr] at a1 m
    have x0 : x = 0 := by
      have h1 := hp x ((m x).mp (by simp))
      rcases List.mem_cons.mp ((m 0).mpr h0) with e | e
      · exact e.symm
      · have := (List.pairwise_cons.mp a1).1 0 e
        grind
    subst x0
    exact ⟨r, rfl, a1, m⟩
/-- one meaning, one line -/
theorem cn_uniq {l m : List Tr} (hl : Cn l) (hm : Cn m) (h : ∀ t, 0 ≤ t → lkl l t = lkl m t) : l = m := by
  obtain ⟨r, e, ha, hr⟩ := rank_zero (l := ts l ++ ts m) (by
    obtain ⟨a, b, r, rfl⟩ := hl.head
    simp [ts]) (fun t ht => by
    rcases List.mem_append.mp ht with k | k
    · obtain ⟨x, hx, rfl⟩ := List.mem_map.mp k
      exact cn_pos hl x hx
    · obtain ⟨x, hx, rfl⟩ := List.mem_map.mp k
      exact cn_pos hm x hx)
  have e1 := cn_more hl ha fun x hx => (hr x.1).mpr (List.mem_append_left _ (List.mem_map_of_mem hx))
  have e2 := cn_more hm ha fun x hx => (hr x.1).mpr (List.mem_append_right _ (List.mem_map_of_mem hx))
  rw [← e1, ← e2]
  congr 1
  refine List.map_congr_left fun t ht => ?_
  have t0 : 0 ≤ t := by
    rcases List.mem_cons.mp ht with e | e
    · rw [e]; exact Rat.le_refl
    · have := (List.pairwise_cons.mp ha).1 t e
      grind
  rw [h t t0]
/-- a line's meaning is steady off its times -/
theorem look_on2 : ∀ (l : List Tr) (t t' : Rat) (o : Bool × Bool), Asc (ts l) → t < t' → (∀ s ∈ ts l, ¬ (t < s ∧ s ≤ t')) → look l t' (o.2, o.2) = ((look l t o).2, (look l t o).2)
  | [], _, _, _, _, _, _ => rfl
  | x :: l, t, t', o, ha, lt, hn => by
    obtain ⟨h1, h2⟩ := List.pairwise_cons.mp ha
    by_cases c : t < x.1
    · have c' : t' < x.1 := by
        have := hn x.1 (by simp [ts])
        grind
      rw [look_lt (x :: l) t' _, look_lt (x :: l) t _]
      · intro z hz
        rcases List.mem_cons.mp hz with e | e
        · rw [e]; exact c
        · have := h1 z.1 (List.mem_map_of_mem e); grind
      · intro z hz
        rcases List.mem_cons.mp hz with e | e
        · rw [e]; exact c'
        · have := h1 z.1 (List.mem_map_of_mem e); grind
    · have d : x.1 < t' := by grind
      rw [look_on d, look, if_neg c]
      exact look_on2 l t t' (if x.1 = t then x.2.1 else x.2.2, x.2.2) h2 lt fun s hs => hn s (by simp [ts] at hs ⊢; exact .inr hs)
theorem steady_lkl {l : List Tr} (h : Cn l) : Steady (lkl l) (ts l) := fun t t' t0 lt hn => by
  obtain ⟨a, b, r, rfl⟩ := h.head
  have n1 : ¬ t < 0 := by grind
  have q := look_on2 ((0, a, b) :: r) t t' (false, false) h.asc lt hn
  exact q
theorem Steady.mono {F : Meaning} {T U : List Rat} (h : Steady F T) (sub : ∀ t ∈ T, t ∈ U) : Steady F U := fun t t' t0 lt hn => h t t' t0 lt fun s hs => hn s (sub s hs)
theorem Steady.op {F G : Meaning} {T : List Rat} (hF : Steady F T) (hG : Steady G T) (f : Bool → Bool → Bool) : Steady (fun t => (f (F t).1 (G t).1, f (F t).2 (G t).2)) T := fun t t' t0 lt hn => by
  show (f (F t').1 (G t').1, f (F t').2 (G t').2) = _
  rw [hF t t' t0 lt hn, hG t t' t0 lt hn]
theorem Steady.not {F : Meaning} {T : List Rat} (hF : Steady F T) : Steady (fun t => (!(F t).1, !(F t).2)) T := fun t t' t0 lt hn => by
  show (!(F t').1, !(F t').2) = _
  rw [hF t t' t0 lt hn]
/-- two lines put together -/
theorem cn_op {l m : List Tr} (hl : Cn l) (hm : Cn m) (f : Bool → Bool → Bool) {r : List Rat} (e : rank [] (ts l ++ ts m) = 0 :: r) (ha : Asc (0 :: r)) (hr : ∀ t, t ∈ 0 :: r ↔ t ∈ ts l ++ ts m) :
    Cn (kept none (rowsOf (fun t => (f (lkl l t).1 (lkl m t).1, f (lkl l t).2 (lkl m t).2)) (0 :: r))) ∧ ∀ t, 0 ≤ t → lkl (kept none (rowsOf (fun t => (f (lkl l t).1 (lkl m t).1, f (lkl l t).2 (lkl m t).2)) (0 :: r))) t = (f (lkl l t).1 (lkl m t).1, f (lkl l t).2 (lkl m t).2) := by
  refine cn_rows ha (Steady.op ((steady_lkl hl).mono fun t ht => (hr t).mpr (List.mem_append_left _ ht)) ((steady_lkl hm).mono fun t ht => (hr t).mpr (List.mem_append_right _ ht)) f)
theorem two_times {l m : List Tr} (hl : Cn l) (hm : Cn m) : ∃ r, rank [] (ts l ++ ts m) = 0 :: r ∧ Asc (0 :: r) ∧ ∀ t, t ∈ 0 :: r ↔ t ∈ ts l ++ ts m := rank_zero (by
    obtain ⟨a, b, r, rfl⟩ := hl.head
    simp [ts]) (fun t ht => by
    rcases List.mem_append.mp ht with k | k
    · obtain ⟨x, hx, rfl⟩ := List.mem_map.mp k
      exact cn_pos hl x hx
    · obtain ⟨x, hx, rfl⟩ := List.mem_map.mp k
      exact cn_pos hm x hx)
/-- the woven rows are the rows at all times -/
theorem weave_rows2 {u v : List Tr} (hu : Cn u) (hv : Cn v) (f : Bool → Bool → Bool) : (weave (u.length + v.length) u v false false).map (fun z => (z.1, f z.2.1.1 z.2.2.1, f z.2.1.2 z.2.2.2)) = rowsOf (fun t => (f (lkl u t).1 (lkl v t).1, f (lkl u t).2 (lkl v t).2)) (rank [] (ts u ++ ts v)) := by
  obtain ⟨i1, i2, i3⟩ := weave_ok (u.length + v.length) u v false false hu.asc hv.asc (Nat.le_refl _)
  obtain ⟨a1, a2⟩ := rank_ok (ts u ++ ts v) [] (by simp)
  have e : (weave (u.length + v.length) u v false false).map (·.1) = rank [] (ts u ++ ts v) := asc_eq _ _ i2 a1 fun t => by
    rw [i3, a2, List.mem_append]
    simp
  unfold rowsOf
  rw [← e, List.map_map]
  apply List.map_congr_left
  intro z hz
  obtain ⟨j1, j2⟩ := i1 z hz
  show (z.1, f z.2.1.1 z.2.2.1, f z.2.1.2 z.2.2.2) = (z.1, f (lkl u z.1).1 (lkl v z.1).1, f (lkl u z.1).2 (lkl v z.1).2)
  rw [j1, j2] <;> rfl
def notT (l : List Tr) : List Tr := l.map fun x => (x.1, !x.2.1, !x.2.2)
theorem look_notT : ∀ (l : List Tr) (t : Rat) (o : Bool × Bool), look (notT l) t (!o.1, !o.2) = (!(look l t o).1, !(look l t o).2)
  | [], _, _ => rfl
  | x :: l, t, o => by
    show look ((x.1, !x.2.1, !x.2.2) :: notT l) t _ = _
    rw [look, look, ← look_notT l t]
    congr 1
    by_cases c : t < x.1
    · simp [c]
    · by_cases d : x.1 = t
      · simp [c, d]
      · simp [c, d]
theorem ts_notT (l : List Tr) : ts (notT l) = ts l := by
  unfold notT ts
  rw [List.map_map] <;> rfl
theorem turns_not : ∀ (l : List Tr) (o : Option Bool), turns o l → turns (o.map (!·)) (notT l)
  | [], _, _ => trivial
  | x :: l, o, h => by
    refine ⟨fun ⟨k1, k2⟩ => h.1 ?_, ?_⟩
    · cases o with
      | none => cases k1
      | some b =>
        simp at k1 k2
        exact ⟨by rw [k1], by rw [k2]⟩
    · exact turns_not l (some x.2.2) h.2
theorem cn_not {l : List Tr} (h : Cn l) : Cn (notT l) ∧ ∀ t, 0 ≤ t → lkl (notT l) t = (!(lkl l t).1, !(lkl l t).2) := by
  obtain ⟨a, b, r, e⟩ := h.head
  refine ⟨⟨⟨!a, !b, notT r, by rw [e]; rfl⟩, by rw [ts_notT]; exact h.asc, turns_not l none h.tur⟩, fun t t0 => ?_⟩
  have q := look_notT l t (false, false)
  refine Eq.trans ?_ q
  subst e
  show look (notT _) t (false, false) = look (notT _) t (true, true)
  have n : ¬ t < 0 := by grind
  show look ((0, !a, !b) :: notT r) t _ = look ((0, !a, !b) :: notT r) t _
  rw [look, look, if_neg n, if_neg n]
end Ev.L

/-! EvL30: a straight way beside a wall: what it has of it, as a line; no program in sight. -/
namespace Ev.L
open PySem
/-- at t the way is e + k t beyond the wall -/
def wallM (own : Bool) (e k : Int) : Meaning := fun t => (decide ((e : Rat) + k * t < 0) || (decide ((e : Rat) + k * t = 0) && own), decide ((e : Rat) + k * t < 0) || (decide ((e : Rat) + k * t = 0) && (decide (k < 0) || (decide (k = 0) && own))))
def crossT (e k : Int) : Rat := ((-e : Int) : Rat) / k
def wallT (own : Bool) (e k : Int) : List Tr :=
  if k = 0 then [(0, decide (e < 0) || (decide (e = 0) && own), decide (e < 0) || (decide (e = 0) && own))]
  else if crossT e k < 0 then [(0, decide (k < 0), decide (k < 0))]
  else if crossT e k = 0 then [(0, own, decide (k < 0))]
  else [(0, decide (0 < k), decide (0 < k)), (crossT e k, own, decide (k < 0))]
theorem cross_mul {e k : Int} (hk : k ≠ 0) : (k : Rat) * crossT e k = -(e : Rat) := by
  unfold crossT
  have h : (k : Rat) ≠ 0 := fun h => hk (by exact_mod_cast h)
  have := Rat.div_mul_cancel (a := ((-e : Int) : Rat)) h
  rw [Rat.mul_comm, this, Rat.intCast_neg]
theorem beyond_pos {e k : Int} (hk : 0 < k) (t : Rat) : (t < crossT e k → (e : Rat) + k * t < 0) ∧ (t = crossT e k → (e : Rat) + k * t = 0) ∧ (crossT e k < t → 0 < (e : Rat) + k * t) := by
  have m := cross_mul (e := e) (k := k) (by omega)
  have k0 : (0 : Rat) < (k : Rat) := by exact_mod_cast hk
  refine ⟨fun h => ?_, fun h => ?_, fun h => ?_⟩
  · have := Rat.mul_lt_mul_of_pos_left h k0
    grind
  · subst h; grind
  · have := Rat.mul_lt_mul_of_pos_left h k0
    grind
theorem beyond_neg {e k : Int} (hk : k < 0) (t : Rat) : (t < crossT e k → 0 < (e : Rat) + k * t) ∧ (t = crossT e k → (e : Rat) + k * t = 0) ∧ (crossT e k < t → (e : Rat) + k * t < 0) := by
  have m := cross_mul (e := e) (k := k) (by omega)
  have k0 : (0 : Rat) < -(k : Rat) := by
    have : (k : Rat) < 0 := by exact_mod_cast hk
    grind
  refine ⟨fun h => ?_, fun h => ?_, fun h => ?_⟩
  · have := Rat.mul_lt_mul_of_pos_left h k0
    grind
  · subst h; grind
  · have := Rat.mul_lt_mul_of_pos_left h k0
    grind
theorem wallM_at {own : Bool} {e k : Int} (hk : k ≠ 0) (t : Rat) : wallM own e k t = if t < crossT e k then (decide (0 < k), decide (0 < k)) else if t = crossT e k then (own, decide (k < 0)) else (decide (k < 0), decide (k < 0)) := by
  unfold wallM
  rcases Int.lt_trichotomy k 0 with h | h | h
  · obtain ⟨h1, h2, h3⟩ := beyond_neg (e := e) h t
    have n : ¬ 0 < k := by omega
    by_cases c : t < crossT e k
    · have := h1 c
      have x1 : ¬ (e : Rat) + k * t < 0 := by grind
      have x2 : ¬ (e : Rat) + k * t = 0 := by grind
      simp [c, x1, x2, n]
    · by_cases d : t = crossT e k
      · have := h2 d
        have x1 : ¬ (e : Rat) + k * t < 0 := by grind
        rw [if_neg c, if_pos d]
        simp [x1, this, h]
      · have := h3 (by grind)
        rw [if_neg c, if_neg d]
        simp [this, h]
  · exact absurd h hk
  · obtain ⟨h1, h2, h3⟩ := beyond_pos (e := e) h t
    have n : ¬ k < 0 := by omega
    by_cases c : t < crossT e k
    · have := h1 c
      simp [c, this, h]
    · by_cases d : t = crossT e k
      · have := h2 d
        have x1 : ¬ (e : Rat) + k * t < 0 := by grind
        rw [if_neg c, if_pos d]
        simp [x1, this, n, hk]
      · have := h3 (by grind)
        have x1 : ¬ (e : Rat) + k * t < 0 := by grind
        have x2 : ¬ (e : Rat) + k * t = 0 := by grind
        rw [if_neg c, if_neg d]
        simp [x1, x2, n]
theorem wallT_ok (own : Bool) (e k : Int) : Cn (wallT own e k) ∧ ∀ t, 0 ≤ t → lkl (wallT own e k) t = wallM own e k t := by
  unfold wallT
  by_cases hk : k = 0
  · subst hk
    rw [if_pos rfl]
    refine ⟨⟨⟨_, _, [], rfl⟩, by simp [ts], ⟨by simp, trivial⟩⟩, fun t t0 => ?_⟩
    have n : ¬ t < 0 := by grind
    have z : (e : Rat) + ((0 : Int) : Rat) * t = e := by simp; grind
    show look [_] t _ = _
    rw [look, if_neg n, look]
    unfold wallM
    rw [z]
    have e1 : decide ((e : Rat) < 0) = decide (e < 0) := by rw [decide_eq_decide]; exact_mod_cast Iff.rfl
    have e2 : decide ((e : Rat) = 0) = decide (e = 0) := by rw [decide_eq_decide]; exact_mod_cast Iff.rfl
    rw [e1, e2]
    split <;> simp
  · rw [if_neg hk]
    have flip : decide (k < 0) = !decide (0 < k) := by
      rcases Int.lt_trichotomy k 0 with h | h | h
      · have : ¬ 0 < k := by omega
        simp [h, this]
      · exact absurd h hk
      · have : ¬ k < 0 := by omega
        simp [h, this]
    by_cases c : crossT e k < 0
    · rw [if_pos c]
      refine ⟨⟨⟨_, _, [], rfl⟩, by simp [ts], ⟨by simp, trivial⟩⟩, fun t t0 => ?_⟩
      have n : ¬ t < 0 := by grind
      show look [_] t _ = _
      have a1 : ¬ t < crossT e k := by grind
      have a2 : ¬ t = crossT e k := by grind
      rw [look, if_neg n, look, wallM_at hk, if_neg a1, if_neg a2]
      split <;> rfl
    · rw [if_neg c]
      by_cases d : crossT e k = 0
      · rw [if_pos d]
        refine ⟨⟨⟨_, _, [], rfl⟩, by simp [ts], ⟨by simp, trivial⟩⟩, fun t t0 => ?_⟩
        have n : ¬ t < 0 := by grind
        show look [_] t _ = _
        have a1 : ¬ t < crossT e k := by rw [d]; exact n
        rw [look, if_neg n, look, wallM_at hk, if_neg a1, d]
        by_cases z : t = 0
        · subst z; simp
        · have : ¬ (0 : Rat) = t := fun h => z h.symm
          simp [z, this]
      · rw [if_neg d]
        have pos : 0 < crossT e k := by grind
        refine ⟨⟨⟨_, _, _, rfl⟩, by simp [ts]; exact pos, ⟨by simp, ⟨fun ⟨h1, h2⟩ => ?_, trivial⟩⟩⟩, fun t t0 => ?_⟩
        · rw [flip] at h2
          simp at h2
        · have n : ¬ t < 0 := by grind
          show look [_, _] t _ = _
          rw [look, if_neg n, look, look, wallM_at hk]
          by_cases lt : t < crossT e k
          · rw [if_pos lt, if_pos lt]
            split <;> rfl
          · rw [if_neg lt, if_neg lt]
            by_cases eq : crossT e k = t
            · rw [if_pos eq, if_pos eq.symm]
            · rw [if_neg eq, if_neg (fun h => eq h.symm)]
theorem wallT_ts {own : Bool} {e k : Int} {x : Tr} (h : x ∈ wallT own e k) : x.1 = 0 ∨ (k ≠ 0 ∧ 0 ≤ crossT e k ∧ x.1 = crossT e k) := by
  unfold wallT at h
  split at h
  · simp at h; subst h; exact .inl rfl
  · rename_i hk
    split at h
    · simp at h; subst h; exact .inl rfl
    · rename_i c
      split at h
      · simp at h; subst h; exact .inl rfl
      · simp at h
        rcases h with h | h <;> subst h
        · exact .inl rfl
        · exact .inr ⟨hk, by grind, rfl⟩
theorem wallT_len (own : Bool) (e k : Int) : (wallT own e k).length ≤ 2 := by
  unfold wallT
  split
  · simp
  · split
    · simp
    · split <;> simp
theorem steady_of {F : Meaning} {l : List Tr} (h : Cn l) (hl : ∀ t, 0 ≤ t → lkl l t = F t) {T : List Rat} (sub : ∀ x ∈ l, x.1 ∈ T) : Steady F T := fun t t' t0 lt hn => by
  rw [← hl t' (by grind), ← hl t t0]
  refine steady_lkl h t t' t0 lt fun s hs => ?_
  obtain ⟨x, hx, rfl⟩ := List.mem_map.mp hs
  exact hn x.1 (sub x hx)
theorem wallM_steady (own : Bool) (e k : Int) {T : List Rat} (h0 : (0 : Rat) ∈ T) (hT : k ≠ 0 → 0 ≤ crossT e k → crossT e k ∈ T) : Steady (wallM own e k) T := by
  obtain ⟨h1, h2⟩ := wallT_ok own e k
  refine steady_of h1 h2 fun x hx => ?_
  rcases wallT_ts hx with e | ⟨h3, h4, h5⟩
  · rw [e]; exact h0
  · rw [h5]; exact hT h3 h4
end Ev.L

namespace Ev
open PySem
end Ev
namespace Ev.L
open PySem
abbrev cUnfit : Nat := 1
theorem moves0 (a b c : Int) : (callN lw.gs lw.fs) 199 90 [.int 0] [[.int a, .int b, .int c]] = .ok (.bl true) [[.int a, .int b, .int c]] := by kernel_rfl
theorem moves1 (a b c : Int) : (callN lw.gs lw.fs) 199 90 [.int 1] [[.int a, .int b, .int c]] = .ok (.bl true) [[.int a, .int b, .int c]] := by kernel_rfl
theorem moves2 (a b c : Int) : (callN lw.gs lw.fs) 199 90 [.int 2] [[.int a, .int b, .int c]] = .ok (.bl true) [[.int a, .int b, .int c]] := by kernel_rfl
theorem law_plain (ns : List Int) (hn : ns.length ≤ 63) : (callN lw.gs lw.fs) 200 93 [.scr (ns.map .int)] [] = .ok (.bl true) [] := by
  obtain ⟨l, hl⟩ := cells_ok (gs := lw.gs) (fs := lw.fs) (i := 82) rfl ns hn (M := 1) (by decide) (by decide) 198
  obtain ⟨h, hb, t⟩ := box_ok (gs := lw.gs) (fs := lw.fs) (i := 80) (rfl : lw.fs[80]? = some (g_box 3179024)) (by decide) (by decide) l (k := 0) (by decide) (by decide) 198 []
  obtain ⟨d, h', ht, d0, d3, t'⟩ := take_ok (gs := lw.gs) (fs := lw.fs) (i := 81) (N := f_law_take.N) rfl rfl (by decide) t [] (m := 3) (by decide) (by decide) 198
  obtain ⟨a, b, c, rfl, _⟩ := t'
  have hm : (callN lw.gs lw.fs) 199 90 [.int d] [[.int a, .int b, .int c]] = .ok (.bl true) [[.int a, .int b, .int c]] := by
    obtain rfl | rfl | rfl : d = 0 ∨ d = 1 ∨ d = 2 := by omega
    · exact moves0 a b c
    · exact moves1 a b c
    · exact moves2 a b c
  rw [call_eq (fn := f_law) rfl rfl]
  unfold f_law
  dsimp only [List.map_cons, List.map_nil, List.length_cons, List.length_nil, List.replicate, List.cons_append, List.nil_append]
  conv => (lhs; arg 3; rw [ss_cons]; arg 1; simp [evE_var, t_bl, mkT, mkL, lineOk, Tgs.len, items, srcOf, at0, at1, at2, at3, values_ok, makers_ok])
  first | rw [then_next] | rw [then_ret] | skip
  conv => (lhs; arg 3; rw [ss_cons]; arg 1; simp [evE_var, t_bl, mkT, mkL, lineOk, Tgs.len, items, srcOf, at0, at1, at2, at3, hl, hb, ht, hm])
  first | rw [then_next] | rw [then_ret] | skip
  simp [finish, leave, belowAll, belows, froze, Ev.below]

end Ev.L
namespace Ev
end Ev

open PySem PySem.W PySem.Calls PyProof.Rows
theorem PySem.Challenge.cw_solidseen_k24_moves_and_shapes_by_hand_holds : PySem.Challenge.rw_solidseen_k24_moves_and_shapes_by_hand.Holds := by
  w_on; o_law
  refine HandSHeadRun.head_imp (r := Ev.rowOf) (q := view Ev.rowOf.prog [0, 107]) (H := Ev.hook) (ob := Ev.seen_) (M := 5000) (loose := Ev.names) (d := HandSHeadRun.topDef Ev.rowOf.prog 107) (kwd := []) Ev.seen_eq
    Ev.top_runs (by kernel_rfl) (by kernel_rfl) (by kernel_rfl) (by rfl) (by first | assumption | decide +kernel) (by decide +kernel) ⟨rfl, rfl, rfl, rfl, rfl, by decide +kernel⟩ ?hw ?hc
  case hw => w_witness2
  case hc =>
    refine L2.walk_ofE (l := PySem.Challenge.rw_solidseen_k24_moves_and_shapes_by_hand) (n := 63) (k := 200) (x := "_law_script") (CX := L2.CX0) rfl (by decide) (by kernel_rfl) ⟨rfl, by decide, by decide⟩ ?F (fun _ _ _ _ z => z)
    intro w mg fa h says ns bound
    obtain ⟨K, inK, told⟩ := says
    have named : mg ("law" : PySem.Str) = some (.ref fa) := by
      have e : (HandSHeadRun.topDef Ev.rowOf.prog 107).name = ("law" : PySem.Str) := by kernel_rfl
      rw [← e]
      exact bound
    obtain ⟨fd, sp, binds, asks, keeps⟩ := Ev.Lw.facts (L := Ev.lw) (P := PySem.Challenge.pw_solidseen_k24_moves_and_shapes_by_hand) (w := w) (n := 199) (ld := 93) (most := 63) (fl := Ev.f_law) (x := "_law_script") inK ns named told Ev.looked rfl rfl rfl Ev.L.law_plain
    exact ⟨K, fd, sp, inK, binds, asks, keeps⟩
