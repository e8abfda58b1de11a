import PyProof.Rows.All
import Wide.All
import OpenK.AllK
import Wide.FinOn
import KE.SortData
import HandS.Text
import PyProof.ZipIter
import HandS.Zip0
import HandS.Zip
import HandS.ForMost
import HandS.TupMul
import HandS.TupAny
import HandS.DictTup
import HandS.ForExc
import HandS.Lambda
import KE.KeyNested
import KE.KDictKeyed
import HandS.IsInst
import HandS.Deep
import HandS.TupLe
import KE.DataCmp
import HandS.TupLen
import KE.KDictSum
import PyProof.TupleOfSeq
import HandS.Conv
import HandS.Keys
import KE.KSortAsk
import KE.DataMinMax
import KE.GoesMore
import KE.GoesEnum
import HandS.WordsExc
import HandS.Defaults
import KE.KStateDown
import HandS.Head0
import HandS.Head1
import HandS.Head2
import HandS.HeadEnd
import HandS.HeadHook1
import HandS.HeadHook2
import KE.KDictExact
import HandS.ListItems
import HandS.TupSets
import HandS.Style
import HandS.ExcIs
import HandS.Walk
import PyProof.DictUpdate
import HandS.CallLocal
import HandS.Iter
import HandS.Strs
import KE.KDictPairs
import HandS.More
import KE.KDictCopyH
import HandS.EndTab
import HandS.HeadWalk
import HandS.HeadHook4
import HandS.MakeKwOnly
import HandS.FStr
import KE.KCallOwn
import PyProof.InstNe
import HandS.OwnEq
import HandS.Codes
import PySem.Challenge.RW_faultcover_k32_texts
set_option Elab.async false
set_option linter.all false
namespace Ev
open PySem

abbrev D := PyData

/-- a slot: frozen data, an owned list, an owned dict -/
inductive SV where
  | i (d : D)
  | l (xs : List D)
  | m (kvs : List (D × D))

/-- a mutable object -/
inductive MO where
  | non
  | tab (q : Str)
  | town (count : Int) (rests : List (Int × Int))
  | inst (c : Nat) (fs : List (Str × SV))

abbrev W := List MO
abbrev Sl := List (Option SV)

inductive R (α : Type) where
  | ok (a : α) (w : W)
  | exc (c : Nat) (w : W)
  | bad

abbrev M (α : Type) := W → R α
def ret {α : Type} (a : α) : M α := fun w => .ok a w
def bad {α : Type} : M α := fun _ => .bad
def bnd {α β : Type} (x : M α) (f : α → M β) : M β := fun w => match x w with
  | .ok a w' => f a w'
  | .exc c w' => .exc c w'
  | .bad => .bad
def lift {α : Type} : Option α → M α
  | some a => ret a
  | none => bad
/-- no exception leaves -/
def nox {α : Type} (x : M α) : M α := fun w => match x w with
  | .ok a w' => .ok a w'
  | .exc _ _ => .bad
  | .bad => .bad
def thr {α : Type} (c : Nat) : M α := fun w => .exc c w
/-- a call that may raise, told: xn names the error classes -/
def resM (xn : List Str) (x : M PyData) : M PyData := fun w => match x w with
  | .ok d w' => .ok (.tuple [.str "returns", d]) w'
  | .exc k w' => (match xn[k]? with
    | some y => .ok (.tuple [.str y]) w'
    | none => .bad)
  | .bad => .bad

/-- a function, an object, as data -/
def fnD (n : Nat) : D := .dict [(.none, .int n)]
def obD (n : Nat) : D := .dict [(.bool true, .int n)]
/-- the law's script -/
def scrD : D := .dict [(.bool false, .none)]

/-- which def a datum is -/
def fnI : D → Option Nat
  | .dict [(.none, .int n)] => if 0 ≤ n then some n.toNat else none
  | _ => none
/-- the answers of _law_result, by the error's class -/
def resL : List Str := ["model", "test", "combination", "suite", "strength", "text", "hypothesis", "number", "results", "index", "large", "many", "unexplained", "same", "contradiction", "use", "undo"]
/-- the largest length of a list -/
def LIM : Nat := 16777216

inductive Op2 where
  | add | sub | mul | fdiv | mod | lt | le | gt | ge | eq | ne | isin | notin | isN | notN
  deriving DecidableEq
inductive Bi where
  | len | all | any | sorted | tuple | list | sum | max | min | abs | sset | sitems | dict | rev | evens | stri | toint
  deriving DecidableEq
/-- methods of texts with one argument -/
inductive Tx where
  | split | join | count
  deriving DecidableEq
inductive Ty where
  | int | bool | tuple | str
  deriving DecidableEq

mutual
inductive Tg where
  | name (i : Nat)
  | tup (ts : Tgs)
inductive Tgs where
  | nil
  | cons (t : Tg) (ts : Tgs)
end
mutual
inductive E where
  | var (i : Nat)
  | pk (i : Nat)
  | none | tr | fa
  | int (n : Int)
  | str (s : Str)
  | gint (x : Str) (n : Int)
  | fn (f : Nat)
  | tup (es : Es)
  | lst (es : Es)
  | dnew
  | op (o : Op2) (a b : E)
  | ladd (a b : E)
  | tupr (a : E)
  | neg (a : E)
  | and (a b : E)
  | or (a b : E)
  | not (a : E)
  | ite (t : T) (a b : E)
  | chain (o p : Op2) (a b c : E)
  | call (f : Nat) (es : Es)
  | calld (i : Nat) (fs : List Nat) (es : Es)
  | bi (b : Bi) (a : E)
  | min2 (a b : E)
  | max2 (a b : E)
  | isi (t : Ty) (a : E)
  | ix (a i : E)
  | sl (a : E) (lo hi : Eo)
  | items (a : E)
  | get2 (a k x : E)
  | index (a b : E)
  | indexT (a b : E)
  | comp (elt : E) (tg : Tg) (it : I) (ifs : Ts) (own : List Nat)
  | lam (xn : List Str) (a : E)
  | fld (i : Nat) (f : Str)
  | meth (m : Str) (j : Nat) (o : E) (es : Es)
  | new (j : Nat) (es : Es)
  | leno (j : Nat) (o : E)
  | fval (a : E)
  | joined (es : Es)
  | stro (j : Nat) (o : E)
  | firsts (i : Nat) (f : Str) (k : Nat)
  | eqo (ng : Bool) (j : Nat) (a b : E)
  | isic (a : E)
  | tx (o : Tx) (a b : E)
  | compx (elt : E) (tg : Tg) (it : I) (own : List Nat)
inductive Es where
  | nil
  | cons (e : E) (es : Es)
inductive Eo where
  | no
  | so (e : E)
inductive T where
  | val (e : E)
  | cmp (o : Op2) (a b : E)
  | chain (o p : Op2) (a b c : E)
  | and (a b : T)
  | or (a b : T)
  | not (a : T)
  | fnil (i : Nat) (f : Str)
inductive Ts where
  | yes
  | one (t : T)
inductive I where
  | seq (e : E)
  | range1 (a : E)
  | range2 (a b : E)
  | zip (a b : E)
  | enum (a : E)
  | down (a : E)
end
mutual
inductive S where
  | expr (e : E)
  | set (tg : Tg) (e : E)
  | setM (i : Nat) (e : E)
  | par (i j : Nat) (m n : Bool) (a b : E)
  | app (i : Nat) (e : E)
  | ext (i : Nat) (e : E)
  | dput (i : Nat) (k v : E)
  | dpop (i : Nat) (k : E)
  | dupd (i : Nat) (e : E)
  | fset (i : Nat) (f : Str) (e : E)
  | fnew (i : Nat) (f : Str)
  | fapp (i : Nat) (f : Str) (e : E)
  | fpop (tg : Tg) (i : Nat) (f : Str)
  | ife (t : T) (a b : B)
  | for_ (tg : Tg) (it : I) (b : B)
  | while_ (t : T) (b : B)
  | ret (e : E)
  | raise (c : Nat)
  | pass
  | cont
inductive B where
  | nil
  | cons (s : S) (b : B)
  | frz (i : Nat) (b : B)
end
inductive Fl where
  | nx (s : Sl)
  | rt (d : D)
  | ct (s : Sl)

def getI (s : Sl) (i : Nat) : Option D := match s[i]? with
  | some (some (.i d)) => some d
  | _ => none
def getP (s : Sl) (i : Nat) : Option D := match s[i]? with
  | some (some (.i d)) => some d
  | some (some (.l xs)) => some (.list xs)
  | some (some (.m kvs)) => some (.dict kvs)
  | _ => none

def getL (s : Sl) (i : Nat) : Option (List D) := match s[i]? with
  | some (some (.l xs)) => some xs
  | _ => none
def getM (s : Sl) (i : Nat) : Option (List (D × D)) := match s[i]? with
  | some (some (.m kvs)) => some kvs
  | _ => none
def lstD : D → Option (List D)
  | .list xs => some xs
  | _ => none

def ok2 (d : D) : Bool := SeqAt.shaped d

def eqD (x y : D) : Option Bool := if ok2 x && ok2 y then some (PyData.eqv x y) else none

/-- x < y for alike data -/
def notNone : D → Bool
  | .none => false
  | _ => true
def ltD (x y : D) : Option Bool := if ok2 x && ok2 y && W.alike x y && notNone x then some (W.dataLt x y) else none

def insD (x : D) : List D → List D
  | [] => [x]
  | y :: ys => if W.dataLt y x then y :: insD x ys else x :: y :: ys
def sortD : List D → List D
  | [] => []
  | x :: xs => insD x (sortD xs)
def ntup : D → Bool
  | .tuple (_ :: _) => true
  | _ => false
def isTup : D → Bool
  | .tuple _ => true
  | _ => false
def nonT : D → Bool
  | .none => false
  | .tuple _ => false
  | _ => true
def sortOk (xs : List D) : Bool := xs.all (fun x => xs.all fun y => W.alike x y) && (xs.all isTup || xs.all nonT) && xs.all ok2

def boolsD : List D → Option (List Bool)
  | [] => some []
  | .bool b :: r => (boolsD r).map (b :: ·)
  | _ => none
def intsD : List D → Option (List Int)
  | [] => some []
  | .int n :: r => (intsD r).map (n :: ·)
  | _ => none

def pairD (p : D × D) : D := .tuple [p.1, p.2]

/-- a key of a dict -/
def keyOk : D → Bool
  | .int _ => true
  | .str _ => true
  | _ => false

mutual
/-- what a key may hold -/
def hkOk : D → Bool
  | .none => true
  | .bool _ => true
  | .int _ => true
  | .str _ => true
  | .tuple xs => hkAll xs
  | _ => false
def hkAll : List D → Bool
  | [] => true
  | x :: xs => hkOk x && hkAll xs
end
/-- a tuple as a key of a dict -/
def tkOk (d : D) : Bool := isTup d && hkOk d && decide (d.depth ≤ 8)
/-- a dict's keys are ints and texts, or tuples -/
def kdOk (kvs : List (D × D)) : Bool := kvs.all (fun p => keyOk p.1) || kvs.all (fun p => tkOk p.1)
/-- such a key for such a dict -/
def kyOk (x : D) (kvs : List (D × D)) : Bool := (keyOk x && kvs.all (fun p => keyOk p.1)) || (tkOk x && kvs.all (fun p => tkOk p.1))

/-- the items of a sequence, the keys of a dict -/
def seqD : D → Option (List D)
  | .list xs => some xs
  | .tuple xs => some xs
  | .dict kvs => if kdOk kvs then some (kvs.map (·.1)) else none
  | _ => none

def lookD : List (D × D) → D → Option D
  | [], _ => none
  | (k, v) :: r, x => if PyData.eqv k x then some v else lookD r x
def putD (x v : D) (kvs : List (D × D)) : List (D × D) :=
  if kvs.any (fun p => PyData.eqv p.1 x) then kvs.map (fun p => if PyData.eqv p.1 x then (p.1, v) else p) else kvs ++ [(x, v)]

def dropD (k : D) (ds : List (D × D)) : List (D × D) := ds.filter fun p => !PyData.eqv p.1 k
/-- the elements of a set, without repetition (their order is not told: only sorted may look at it) -/
def dedD : List D → List D
  | [] => []
  | x :: xs => if xs.any (PyData.eqv x) then dedD xs else x :: dedD xs

def maxI : Int → List Int → Int
  | m, [] => m
  | m, x :: xs => maxI (if m < x then x else m) xs
def minI : Int → List Int → Int
  | m, [] => m
  | m, x :: xs => minI (if x < m then x else m) xs

def mulOk (i j : Int) : Bool := (decide (-(2 ^ 64) < i) && decide (i < 2 ^ 64)) || (decide (-(2 ^ 64) < j) && decide (j < 2 ^ 64))

def addD : D → D → Option D
  | .int i, .int j => some (.int (i + j))
  | .tuple xs, .tuple ys => if xs.length + ys.length ≤ LIM then some (.tuple (xs ++ ys)) else none
  | .list xs, .list ys => if xs.length + ys.length ≤ LIM then some (.list (xs ++ ys)) else none
  | .str x, .str y => if x.length + y.length ≤ LIM then some (.str (x ++ y)) else none
  | _, _ => none
def subD : D → D → Option D
  | .int i, .int j => some (.int (i - j))
  | _, _ => none
def mulD : D → D → Option D
  | .int i, .int j => if mulOk i j then some (.int (i * j)) else none
  | .tuple xs, .int k => if xs ≠ [] ∧ 2 ≤ k ∧ k ≤ 1000 ∧ xs.length ≤ 1000 then some (.tuple (List.replicate k.toNat xs).flatten) else if xs = [] ∧ 0 ≤ k ∧ k ≤ 1000 then some (.tuple xs) else none
  | .list xs, .int k => if 0 ≤ k ∧ k < 2 ^ 62 ∧ xs.length * k.toNat ≤ LIM then some (.list (List.replicate k.toNat xs).flatten) else none
  | .str x, .int k => if 0 ≤ k ∧ k ≤ 1000 ∧ x.length ≤ 1000 then some (.str (Txt.mul x k)) else none
  | _, _ => none
def fdivD : D → D → Option D
  | .int i, .int j => if 0 < j ∧ j < 1073741824 then some (.int (i / j)) else none
  | _, _ => none
def modD : D → D → Option D
  | .int i, .int j => if 0 < j then some (.int (i % j)) else none
  | _, _ => none
def leD : D → D → Option D
  | .int i, .int j => some (.bool (decide (i ≤ j)))
  | _, _ => none
def gtD : D → D → Option D
  | .int i, .int j => some (.bool (decide (j < i)))
  | .tuple xs, .tuple ys => if ok2 (.tuple xs) && ok2 (.tuple ys) && W.alike (.tuple xs) (.tuple ys) then some (.bool (W.dataLt (.tuple ys) (.tuple xs))) else none
  | _, _ => none
def geD : D → D → Option D
  | .int i, .int j => some (.bool (decide (j ≤ i)))
  | _, _ => none
/-- the one sign of a text -/
def signD : D → Option Nat
  | .str x => match x.cps.toList with
    | [c] => some c
    | _ => none
  | _ => none
def inD (x : D) : D → Option Bool
  | .list ys => if ok2 x && ok2 (.list ys) then some (ys.any fun z => PyData.eqv z x) else none
  | .tuple ys => if ok2 x && ok2 (.tuple ys) then some (ys.any fun z => PyData.eqv z x) else none
  | .dict kvs => if kyOk x kvs then some (lookD kvs x).isSome else none
  | .str y => (signD x).map fun c => decide (c ∈ y.cps.toList)
  | _ => none
def isND : D → D → Option Bool
  | .none, .none => some true
  | _, .none => some false
  | .bool a, .bool b => some (decide (a = b))
  | _, _ => none
def opD : Op2 → D → D → Option D
  | .add, x, y => addD x y
  | .sub, x, y => subD x y
  | .mul, x, y => mulD x y
  | .fdiv, x, y => fdivD x y
  | .mod, x, y => modD x y
  | .lt, x, y => (ltD x y).map .bool
  | .gt, x, y => gtD x y
  | .le, x, y => leD x y
  | .ge, x, y => geD x y
  | .eq, x, y => (eqD x y).map .bool
  | .ne, x, y => (eqD x y).map fun b => .bool (!b)
  | .isin, x, y => (inD x y).map .bool
  | .notin, x, y => (inD x y).map fun b => .bool (!b)
  | .isN, x, y => (isND x y).map .bool
  | .notN, x, y => (isND x y).map fun b => .bool (!b)

def lenD : D → Option D
  | .list xs => some (.int xs.length)
  | .tuple xs => some (.int xs.length)
  | .dict kvs => if kdOk kvs then some (.int kvs.length) else none
  | .str x => if x.length ≤ LIM then some (.int x.length) else none
  | _ => none
def allD : D → Option D
  | .list xs => (boolsD xs).map fun bs => .bool (bs.all id)
  | _ => none
def anyD : D → Option D
  | .list xs => (boolsD xs).map fun bs => .bool (bs.any id)
  | _ => none
def sortedD : D → Option D
  | .list xs => if sortOk xs then some (.list (sortD xs)) else none
  | .tuple xs => if sortOk xs then some (.list (sortD xs)) else none
  | .dict kvs => if kvs.all (fun p => tkOk p.1) && sortOk (kvs.map (·.1)) then some (.list (sortD (kvs.map (·.1)))) else none
  | _ => none
def tupleD : D → Option D
  | .list xs => some (.tuple xs)
  | .tuple xs => some (.tuple xs)
  | _ => none
def listD : D → Option D
  | .list xs => some (.list xs)
  | .tuple xs => some (.list xs)
  | .dict kvs => if kvs.all (fun p => tkOk p.1) then some (.list (kvs.map (·.1))) else none
  | _ => none
def sumD : D → Option D
  | .list xs => (intsD xs).map fun ns => .int ns.sum
  | .tuple xs => (intsD xs).map fun ns => .int ns.sum
  | _ => none
def maxD : D → Option D
  | .list (.int x :: xs) => (intsD xs).map fun ns => .int (maxI x ns)
  | .tuple (.int x :: xs) => (intsD xs).map fun ns => .int (maxI x ns)
  | _ => none
/-- the first of the least -/
def minT (x : D) (xs : List D) : D := xs.foldl (fun a y => if W.dataLt y a then y else a) x
def mnOk (xs : List D) : Bool := xs.all (fun x => xs.all fun y => W.alike x y) && xs.all notNone && xs.all ok2
def minD : D → Option D
  | .list (.int x :: xs) => (intsD xs).map fun ns => .int (minI x ns)
  | .list (.tuple x :: xs) => if mnOk (.tuple x :: xs) then some (minT (.tuple x) xs) else none
  | _ => none
def absD : D → Option D
  | .int i => some (.int (if i < 0 then -i else i))
  | _ => none
mutual
/-- ints, and tuples of such -/
def nkOk : D → Bool
  | .int _ => true
  | .tuple xs => nkAll xs
  | _ => false
def nkAll : List D → Bool
  | [] => true
  | x :: xs => nkOk x && nkAll xs
end
def isInt : D → Bool
  | .int _ => true
  | _ => false
/-- sorted(set(xs)) -/
def ssetD : D → Option D
  | .list xs => if xs.all (fun x => isTup x && nkOk x && decide (x.depth ≤ 8)) && decide (xs.length < 64) && sortOk xs then some (.list (sortD (dedD xs))) else none
  | _ => none
/-- sorted(d.items()), ints to ints -/
def sitemsD : D → Option D
  | .dict kvs => if kvs.all (fun p => isInt p.1 && isInt p.2) && decide (kvs.length ≤ LIM) then some (.list (sortD (kvs.map pairD))) else none
  | _ => none
/-- pairs of a key and a value -/
def prsD : List D → Option (List (D × D))
  | [] => some []
  | .tuple [k, v] :: r => (prsD r).map ((k, v) :: ·)
  | _ => none
def putAll (ds : List (D × D)) : List (D × D) → List (D × D)
  | [] => ds
  | p :: ps => putAll (putD p.1 p.2 ds) ps
/-- dict(pairs), the keys tuples -/
def dictP (xs : List D) : Option D := (prsD xs).bind fun ps => if ps.all (fun p => tkOk p.1) && decide (ps.length ≤ 65536) then some (.dict (putAll [] ps)) else none
/-- dict(pairs), the keys ints -/
def dictI (xs : List D) : Option D := (prsD xs).bind fun ps => if ps.all (fun p => isInt p.1) && decide (ps.length ≤ 65536) then some (.dict (putAll [] ps)) else none
def dictD : D → Option D
  | .list xs => dictP xs
  | .tuple xs => dictI xs
  | .dict kvs => if kvs.all (fun p => keyOk p.1) then some (.dict kvs) else none
  | _ => none
def revD : D → Option D
  | .tuple xs => some (.tuple xs.reverse)
  | _ => none
/-- two lists, one new list -/
def laddD : D → D → Option D
  | .list xs, .list ys => if xs.length + ys.length ≤ LIM then some (.list (xs ++ ys)) else none
  | _, _ => none
def evnL : List D → List D
  | [] => []
  | [x] => [x]
  | x :: _ :: r => x :: evnL r
def evnD : D → Option D
  | .tuple xs => some (.tuple (evnL xs))
  | .list xs => some (.list (evnL xs))
  | _ => none
/-- x.index(y) -/
def idxL (y : D) : Nat → List D → Option Nat
  | _, [] => none
  | n, x :: r => if PyData.eqv x y then some n else idxL y (n + 1) r
def tupD : D → Option (List D)
  | .tuple xs => some xs
  | _ => none
def idxT (xs : List D) (y : D) : Option D := if ok2 (.tuple xs) && ok2 y then (idxL y 0 xs).map fun (n : Nat) => .int n else none
def idxD (xs : List D) (y : D) : Option D := if ok2 (.list xs) && ok2 y then (idxL y 0 xs).map fun (n : Nat) => .int n else none
mutual
/-- hash(d), ints and tuples of such -/
def hashD : D → Int
  | .int i => hashInt i
  | .tuple xs => reduceHash (Builtin.Tuple.tupleHashOf (hashDs xs))
  | _ => 0
def hashDs : List D → List Int
  | [] => []
  | x :: xs => hashD x :: hashDs xs
end
/-- keys of ints whose hashes differ -/
def hashOk (ds : List (D × D)) : Bool := ds.all (fun p => nkOk p.1) && decide (ds.map fun p => hashD p.1).Nodup
/-- a dict with keys that are read -/
def dctD : D → Option (List (D × D))
  | .dict kvs => if kdOk kvs then some kvs else none
  | _ => none
/-- str(n) -/
def striD : D → Option D
  | .int i => if i.natAbs < 1000000000 then some (.str (toString i)) else none
  | _ => none
/-- int(text) -/
def tointD : D → Option D
  | .str x => if x.length ≤ 640 then (PySem.intText? x).map .int else none
  | _ => none
/-- the texts of a list -/
def strsD : List D → Option (List Str)
  | [] => some []
  | .str y :: r => (strsD r).map (y :: ·)
  | _ => none
def seqO : D → Option (List D)
  | .list xs => some xs
  | .tuple xs => some xs
  | _ => none
def txD : Tx → D → D → Option D
  | .split, .str x, .str y => if y.length ≠ 0 ∧ x.length + 2 ≤ LIM then some (.list ((Txt.split x y).map .str)) else none
  | .join, .str x, d => (seqO d).bind fun ds => (strsD ds).bind fun ys => if (ys.map (·.length)).sum + ys.length * x.length ≤ 16777216 then some (.str (Txt.join x ys)) else none
  | .count, .str x, .str y => some (.int (Txt.count x y))
  | _, _, _ => none
def biD : Bi → D → Option D
  | .len, x => lenD x
  | .all, x => allD x
  | .any, x => anyD x
  | .sorted, x => sortedD x
  | .tuple, x => tupleD x
  | .list, x => listD x
  | .sum, x => sumD x
  | .max, x => maxD x
  | .min, x => minD x
  | .abs, x => absD x
  | .sset, x => ssetD x
  | .sitems, x => sitemsD x
  | .dict, x => dictD x
  | .rev, x => revD x
  | .evens, x => evnD x
  | .stri, x => striD x
  | .toint, x => tointD x

def isiD : Ty → D → Option Bool
  | .int, .int _ => some true
  | .int, .bool _ => some true
  | .int, .dict _ => none
  | .int, _ => some false
  | .bool, .bool _ => some true
  | .bool, .dict _ => none
  | .bool, _ => some false
  | .tuple, .tuple _ => some true
  | .tuple, .dict _ => none
  | .tuple, _ => some false
  | .str, .str _ => some true
  | .str, .dict _ => none
  | .str, _ => some false

def ixI (n : Nat) (i : Int) : Option Nat := if 0 ≤ i then (if i < n then some i.toNat else none) else if -(n : Int) ≤ i then some (i + n).toNat else none

def ixD : D → D → Option D
  | .list xs, .int i => (ixI xs.length i).bind fun j => xs[j]?
  | .tuple xs, .int i => (ixI xs.length i).bind fun j => xs[j]?
  | .dict kvs, k => if kyOk k kvs then lookD kvs k else none
  | .str y, .int i => if y.length ≤ LIM then (ixI y.cps.toList.length i).bind fun j => (y.cps.toList[j]?).map fun c => .str ⟨#[c]⟩ else none
  | _, _ => none

def slI (n d : Nat) : Option Int → Nat
  | none => d
  | some v => if v < 0 then (v + n).toNat else min v.toNat n
def cutD (xs : List D) (lo hi : Option Int) : List D := (xs.drop (slI xs.length 0 lo)).take (slI xs.length xs.length hi - slI xs.length 0 lo)
def slD : D → Option Int → Option Int → Option D
  | .list xs, lo, hi => some (.list (cutD xs lo hi))
  | .tuple xs, lo, hi => some (.tuple (cutD xs lo hi))
  | .str y, lo, hi => if y.length ≤ LIM then some (.str (L2.cutS y lo hi)) else none
  | _, _, _ => none

def truD : D → Option Bool
  | .none => some false
  | .bool b => some b
  | .int i => some (i != 0)
  | .list xs => some (!xs.isEmpty)
  | .tuple xs => some (!xs.isEmpty)
  | .dict kvs => if kdOk kvs then some (!kvs.isEmpty) else none
  | .str _ => none

def intD : D → Option Int
  | .int i => some i
  | _ => none
def boolD : D → Option Bool
  | .bool b => some b
  | _ => none

def rangeD (lo hi : Int) : Option (List D) :=
  if -(2 ^ 62) ≤ lo ∧ lo < 2 ^ 62 ∧ -(2 ^ 62) ≤ hi ∧ hi < 2 ^ 62 ∧ (hi - lo).toNat ≤ LIM then some ((List.range (hi - lo).toNat).map fun (k : Nat) => .int (lo + k)) else none

/-- i, i - 1, .. 0 -/
def downD (i : Int) : Option (List D) :=
  if -1 ≤ i ∧ i < 2 ^ 62 ∧ (i + 1).toNat ≤ LIM then some ((List.range (i + 1).toNat).map fun (k : Nat) => .int (i - k)) else none
/-- two sequences of one kind, walked together -/
def zipD : D → D → Option (List D)
  | .list xs, .list ys => some ((xs.zip ys).map pairD)
  | .tuple xs, .tuple ys => some ((xs.zip ys).map pairD)
  | .list xs, .tuple ys => some ((xs.zip ys).map pairD)
  | .tuple xs, .list ys => some ((xs.zip ys).map pairD)
  | _, _ => none
def enumL : Nat → List D → List D
  | _, [] => []
  | n, x :: xs => .tuple [.int n, x] :: enumL (n + 1) xs
def enumD : D → Option (List D)
  | .list xs => some (enumL 0 xs)
  | .tuple xs => some (enumL 0 xs)
  | _ => none

mutual
def bindT : Tg → D → Sl → Option Sl
  | .name i, d, s => if i < s.length then some (s.set i (some (.i d))) else none
  | .tup ts, .tuple ds, s => bindTs ts ds s
  | _, _, _ => none
def bindTs : Tgs → List D → Sl → Option Sl
  | .nil, [], s => some s
  | .cons t ts, d :: ds, s => (bindT t d s).bind fun s' => bindTs ts ds s'
  | _, _, _ => none
end
def wipeA (s : Sl) : List Nat → Sl
  | [] => s
  | v :: vs => (wipeA s vs).set v none

def compL (f : D → M (Option D)) : List D → M (List D)
  | [] => ret []
  | d :: ds => bnd (f d) fun o => bnd (compL f ds) fun r => match o with
    | some x => ret (x :: r)
    | none => ret r

def forL (f : D → Sl → M Fl) : List D → Sl → M Fl
  | [], s => ret (.nx s)
  | d :: ds, s => bnd (f d s) fun r => match r with
    | .nx s' => forL f ds s'
    | .ct s' => forL f ds s'
    | .rt v => ret (.rt v)

def whileL (t : Sl → M Bool) (f : Sl → M Fl) : Nat → Sl → M Fl
  | 0, _ => bad
  | n + 1, s => bnd (t s) fun b => if b then (bnd (f s) fun r => match r with
    | .nx s' => whileL t f n s'
    | .ct s' => whileL t f n s'
    | .rt v => ret (.rt v)) else ret (.nx s)

abbrev CF := Nat → List D → M D

/-- which object a datum is -/
def obN : D → Option Nat
  | .dict [(.bool true, .int n)] => if 0 ≤ n then some n.toNat else none
  | _ => none
/-- an instance's fields -/
def insF (w : W) (d : D) : Option (Nat × List (Str × SV)) := (obN d).bind fun n => match w[n]? with
  | some (.inst _ fs) => some (n, fs)
  | _ => none
def insM (d : D) : M (List (Str × SV)) := fun w => match insF w d with
  | some p => .ok p.2 w
  | none => .bad
/-- a field that holds frozen data -/
def fldM (d : D) (f : Str) : M D := bnd (insM d) fun fs => match fs.lookup f with
  | some (.i x) => ret x
  | _ => bad
/-- a field that owns a list -/
def fllM (d : D) (f : Str) : M (List D) := bnd (insM d) fun fs => match fs.lookup f with
  | some (.l xs) => ret xs
  | _ => bad
def putS (f : Str) (v : SV) : List (Str × SV) → List (Str × SV)
  | [] => [(f, v)]
  | (g, x) :: r => if g = f then (g, v) :: r else (g, x) :: putS f v r
/-- a field is written -/
def putM (d : D) (f : Str) (v : SV) : M Unit := fun w => match insF w d with
  | some p => if p.2.length < 100 then .ok () (w.set p.1 (.inst 0 (putS f v p.2))) else .bad
  | none => .bad
/-- a new instance, behind its __init__ -/
def newR (n : Nat) : R D → R D
  | .ok .none w => .ok (obD n) w
  | .ok _ _ => .bad
  | .exc c w => .exc c w
  | .bad => .bad
def olnD : D → Option D
  | .int k => if 0 ≤ k ∧ k < 1000000 then some (.int k) else none
  | _ => none
/-- {x} in a text -/
def fvalD : D → Option D
  | .int i => if i.natAbs < 1000000000 then some (.str (toString i)) else none
  | .str y => if y.length ≤ LIM then some (.str y) else none
  | _ => none
/-- a text behind another -/
def appS (acc : Str) : D → Option Str
  | .str y => if (acc ++ y).length ≤ LIM then some (acc ++ y) else none
  | _ => none
def strD : D → Option D
  | .str y => some (.str y)
  | _ => none
/-- the first of each pair -/
def fstsD : List D → Option (List D)
  | [] => some []
  | .tuple [a, _] :: r => (fstsD r).map (a :: ·)
  | _ => none
def fstsL (k n : Nat) (xs : List D) : Option (List D) := if k < n ∧ xs.length ≤ LIM then fstsD xs else none
/-- an instance, or plain data -/
def isicM (d : D) : M D := fun w => match obN d with
  | some n => (match w[n]? with
    | some (.inst _ _) => .ok (.bool true) w
    | _ => .bad)
  | none => (match d with
    | .list _ => .ok (.bool false) w
    | _ => .bad)
/-- the right side of an own comparison: an instance; for == also a list -/
def sideM (ng : Bool) (d : D) : M Unit := fun w => match obN d with
  | some n => (match w[n]? with
    | some (.inst _ _) => .ok () w
    | _ => .bad)
  | none => (match d with
    | .list _ => if ng then .bad else .ok () w
    | _ => .bad)
mutual
def evE (cf : CF) : E → Sl → M D
  | .var i, s => lift (getI s i)
  | .pk i, s => lift (getP s i)
  | .none, _ => ret .none
  | .tr, _ => ret (.bool true)
  | .fa, _ => ret (.bool false)
  | .int n, _ => ret (.int n)
  | .str x, _ => ret (.str x)
  | .gint _ n, _ => ret (.int n)
  | .fn f, _ => ret (fnD f)
  | .tup es, s => bnd (evEs cf es s) fun ds => if ds.length ≤ LIM then ret (.tuple ds) else bad
  | .lst es, s => bnd (evEs cf es s) fun ds => if ds.length ≤ LIM then ret (.list ds) else bad
  | .dnew, _ => ret (.dict [])
  | .op o a b, s => bnd (evE cf a s) fun x => bnd (evE cf b s) fun y => lift (opD o x y)
  | .ladd a b, s => bnd (evE cf a s) fun x => bnd (evE cf b s) fun y => lift (laddD x y)
  | .tupr a, s => bnd (evE cf a s) fun x => bnd (lift (intD x)) fun i => bnd (lift (rangeD 0 i)) fun ds => ret (.tuple ds)
  | .neg a, s => bnd (evE cf a s) fun x => bnd (lift (intD x)) fun i => ret (.int (-i))
  | .and a b, s => bnd (evE cf a s) fun x => bnd (lift (boolD x)) fun c => if c then evE cf b s else ret (.bool false)
  | .or a b, s => bnd (evE cf a s) fun x => bnd (lift (boolD x)) fun c => if c then ret (.bool true) else evE cf b s
  | .not a, s => bnd (evE cf a s) fun x => bnd (lift (boolD x)) fun c => ret (.bool (!c))
  | .ite t a b, s => bnd (evT cf t s) fun c => if c then evE cf a s else evE cf b s
  | .chain o p a b c, s => bnd (evE cf a s) fun x => bnd (evE cf b s) fun y => bnd (lift ((opD o x y).bind boolD)) fun k => if k then (bnd (evE cf c s) fun z => lift (opD p y z)) else ret (.bool false)
  | .call f es, s => bnd (evEs cf es s) fun ds => cf f ds
  | .calld i fs es, s => bnd (lift ((getI s i).bind fnI)) fun f => if f ∈ fs then (bnd (evEs cf es s) fun ds => cf f ds) else bad
  | .bi b a, s => bnd (evE cf a s) fun x => lift (biD b x)
  | .min2 a b, s => bnd (evE cf a s) fun x => bnd (evE cf b s) fun y => bnd (lift (intD x)) fun i => bnd (lift (intD y)) fun j => ret (.int (if j < i then j else i))
  | .max2 a b, s => bnd (evE cf a s) fun x => bnd (evE cf b s) fun y => bnd (lift (intD x)) fun i => bnd (lift (intD y)) fun j => ret (.int (if j > i then j else i))
  | .isi t a, s => bnd (evE cf a s) fun x => bnd (lift (isiD t x)) fun b => ret (.bool b)
  | .ix a i, s => bnd (evE cf a s) fun x => bnd (evE cf i s) fun y => lift (ixD x y)
  | .sl a lo hi, s => bnd (evE cf a s) fun x => bnd (evEo cf lo s) fun l => bnd (evEo cf hi s) fun h => lift (slD x l h)
  | .items a, s => bnd (evE cf a s) fun x => match x with
    | .dict kvs => if kvs.all (fun p => keyOk p.1) then ret (.list (kvs.map pairD)) else bad
    | _ => bad
  | .get2 a k d, s => bnd (evE cf a s) fun x => bnd (lift (dctD x)) fun kvs => bnd (evE cf k s) fun y => bnd (evE cf d s) fun z => if kyOk y kvs then ret ((lookD kvs y).getD z) else bad
  | .index a b, s => bnd (evE cf a s) fun x => bnd (lift (lstD x)) fun xs => bnd (evE cf b s) fun y => lift (idxD xs y)
  | .indexT a b, s => bnd (evE cf a s) fun x => bnd (lift (tupD x)) fun xs => bnd (evE cf b s) fun y => lift (idxT xs y)
  | .comp elt tg it ifs own, s => bnd (evI cf it s) fun ds => bnd (nox (compL (fun d => bnd (lift (bindT tg d (wipeA s own))) fun s' => bnd (evTs cf ifs s') fun b => if b then (bnd (evE cf elt s') fun x => ret (some x)) else ret .none) ds)) fun r => ret (.list r)
  | .lam xn a, s => resM xn (evE cf a s)
  | .fld i f, s => bnd (lift (getI s i)) fun d => fldM d f
  | .meth m j o es, s => bnd (evE cf o s) fun d => bnd (insM d) fun fs => if (fs.lookup m).isNone then bnd (evEs cf es s) fun ds => cf j (d :: ds) else bad
  | .new j es, s => bnd (evEs cf es s) fun ds => fun w => newR w.length (cf j (obD w.length :: ds) (w ++ [.inst 0 []]))
  | .leno j o, s => bnd (evE cf o s) fun d => bnd (insM d) fun _ => bnd (nox (cf j [d])) fun x => lift (olnD x)
  | .fval a, s => bnd (evE cf a s) fun x => lift (fvalD x)
  | .joined es, s => bnd (evJ cf es Str.empty s) fun y => ret (.str y)
  | .stro j o, s => bnd (evE cf o s) fun d => bnd (insM d) fun _ => bnd (nox (cf j [d])) fun x => lift (strD x)
  | .firsts i f k, s => bnd (lift (getI s i)) fun d => bnd (fllM d f) fun xs => bnd (lift (fstsL k s.length xs)) fun ys => ret (.list ys)
  | .eqo ng j a b, s => bnd (evE cf a s) fun x => bnd (evE cf b s) fun y => bnd (insM x) fun _ => bnd (sideM ng y) fun _ => bnd (nox (cf j [x, y])) fun r => bnd (lift (boolD r)) fun c => ret (.bool (c != ng))
  | .isic a, s => bnd (evE cf a s) fun x => isicM x
  | .tx o a b, s => bnd (evE cf a s) fun x => bnd (lift (strD x)) fun x => bnd (evE cf b s) fun y => lift (txD o x y)
  | .compx elt tg it own, s => bnd (evI cf it s) fun ds => bnd (compL (fun d => bnd (lift (bindT tg d (wipeA s own))) fun s' => bnd (evE cf elt s') fun x => ret (some x)) ds) fun r => ret (.list r)
def evEs (cf : CF) : Es → Sl → M (List D)
  | .nil, _ => ret []
  | .cons e es, s => bnd (evE cf e s) fun x => bnd (evEs cf es s) fun r => ret (x :: r)
def evJ (cf : CF) : Es → Str → Sl → M Str
  | .nil, acc, _ => ret acc
  | .cons e es, acc, s => bnd (evE cf e s) fun x => bnd (lift (appS acc x)) fun a => evJ cf es a s
def evEo (cf : CF) : Eo → Sl → M (Option Int)
  | .no, _ => ret .none
  | .so e, s => bnd (evE cf e s) fun x => bnd (lift (intD x)) fun i => ret (some i)
def evT (cf : CF) : T → Sl → M Bool
  | .val e, s => bnd (evE cf e s) fun x => lift (truD x)
  | .cmp o a b, s => bnd (evE cf a s) fun x => bnd (evE cf b s) fun y => lift ((opD o x y).bind boolD)
  | .chain o p a b c, s => bnd (evE cf a s) fun x => bnd (evE cf b s) fun y => bnd (lift ((opD o x y).bind boolD)) fun k => if k then (bnd (evE cf c s) fun z => lift ((opD p y z).bind boolD)) else ret false
  | .and a b, s => bnd (evT cf a s) fun c => if c then evT cf b s else ret false
  | .or a b, s => bnd (evT cf a s) fun c => if c then ret true else evT cf b s
  | .not a, s => bnd (evT cf a s) fun c => ret (!c)
  | .fnil i f, s => bnd (lift (getI s i)) fun d => bnd (fllM d f) fun xs => if ok2 (.list xs) then ret xs.isEmpty else bad
def evTs (cf : CF) : Ts → Sl → M Bool
  | .yes, _ => ret true
  | .one t, s => evT cf t s
def evI (cf : CF) : I → Sl → M (List D)
  | .seq e, s => bnd (evE cf e s) fun x => lift (seqD x)
  | .range1 a, s => bnd (evE cf a s) fun x => bnd (lift (intD x)) fun i => lift (rangeD 0 i)
  | .range2 a b, s => bnd (evE cf a s) fun x => bnd (evE cf b s) fun y => bnd (lift (intD x)) fun i => bnd (lift (intD y)) fun j => lift (rangeD i j)
  | .zip a b, s => bnd (evE cf a s) fun x => bnd (evE cf b s) fun y => lift (zipD x y)
  | .enum a, s => bnd (evE cf a s) fun x => lift (enumD x)
  | .down a, s => bnd (evE cf a s) fun x => bnd (lift (intD x)) fun i => lift (downD i)
end
/-- an owned slot is frozen -/
def frzS (s : Sl) (i : Nat) : Option Sl := match s[i]? with
  | some (some (.l xs)) => some (s.set i (some (.i (.list xs))))
  | some (some (.m kvs)) => some (s.set i (some (.i (.dict kvs))))
  | _ => some s
/-- an expression that makes a new object -/
def fresh : E → Bool
  | .lst _ => true
  | .dnew => true
  | .comp .. => true
  | _ => false
def mutS : D → Option SV
  | .list xs => some (.l xs)
  | .dict kvs => some (.m kvs)
  | _ => none

/-- what a slot gets: a new object of its own, or frozen data -/
def slotV (m : Bool) (d : D) : Option SV := if m then mutS d else some (.i d)
mutual
def evS (cf : CF) (fu : Nat) : S → Sl → M Fl
  | .expr e, s => bnd (evE cf e s) fun _ => ret (.nx s)
  | .set tg e, s => bnd (evE cf e s) fun x => bnd (lift (bindT tg x s)) fun s' => ret (.nx s')
  | .setM i e, s => bnd (evE cf e s) fun x => bnd (lift (mutS x)) fun v => if i < s.length then ret (.nx (s.set i (some v))) else bad
  | .par i j m n a b, s => bnd (evE cf a s) fun x => bnd (evE cf b s) fun y => bnd (lift (slotV m x)) fun u => bnd (lift (slotV n y)) fun v => if i < s.length ∧ j < s.length then ret (.nx ((s.set i (some u)).set j (some v))) else bad
  | .app i e, s => bnd (lift (getL s i)) fun xs => bnd (evE cf e s) fun x => if xs.length < LIM then ret (.nx (s.set i (some (.l (xs ++ [x]))))) else bad
  | .ext i e, s => bnd (lift (getL s i)) fun xs => bnd (evE cf e s) fun x => bnd (lift (lstD x)) fun ys => if xs.length + ys.length ≤ LIM then ret (.nx (s.set i (some (.l (xs ++ ys))))) else bad
  | .dput i k v, s => bnd (evE cf v s) fun x => bnd (lift (getM s i)) fun kvs => bnd (evE cf k s) fun y => if kyOk y kvs && decide (kvs.length < LIM) then ret (.nx (s.set i (some (.m (putD y x kvs))))) else bad
  | .dpop i k, s => bnd (lift (getM s i)) fun kvs => bnd (evE cf k s) fun y => if tkOk y && kvs.all (fun p => tkOk p.1) then ret (.nx (s.set i (some (.m (dropD y kvs))))) else bad
  | .dupd i e, s => bnd (lift (getM s i)) fun kvs => bnd (evE cf e s) fun x => match x with
    | .dict ds => if kvs.all (fun p => tkOk p.1) && ds.all (fun p => tkOk p.1) && decide (kvs.length + ds.length ≤ LIM) && (!kvs.isEmpty || hashOk ds) then ret (.nx (s.set i (some (.m (putAll kvs ds))))) else bad
    | _ => bad
  | .fset i f e, s => bnd (evE cf e s) fun x => bnd (lift (getI s i)) fun d => bnd (putM d f (.i x)) fun _ => ret (.nx s)
  | .fnew i f, s => bnd (lift (getI s i)) fun d => bnd (putM d f (.l [])) fun _ => ret (.nx s)
  | .fapp i f e, s => bnd (lift (getI s i)) fun d => bnd (fllM d f) fun _ => bnd (evE cf e s) fun x => bnd (fllM d f) fun xs => if xs.length < LIM then bnd (putM d f (.l (xs ++ [x]))) fun _ => ret (.nx s) else bad
  | .fpop tg i f, s => bnd (lift (getI s i)) fun d => bnd (fllM d f) fun xs => bnd (lift xs.getLast?) fun x => bnd (putM d f (.l xs.dropLast)) fun _ => bnd (lift (bindT tg x s)) fun s' => ret (.nx s')
  | .ife t a b, s => bnd (evT cf t s) fun c => if c then evB cf fu a s else evB cf fu b s
  | .for_ tg it b, s => bnd (evI cf it s) fun ds => forL (fun d s => bnd (lift (bindT tg d s)) fun s' => evB cf fu b s') ds s
  | .while_ t b, s => whileL (evT cf t) (evB cf fu b) fu s
  | .ret e, s => bnd (evE cf e s) fun x => ret (.rt x)
  | .raise c, _ => thr c
  | .pass, s => ret (.nx s)
  | .cont, s => ret (.ct s)
def evB (cf : CF) (fu : Nat) : B → Sl → M Fl
  | .nil, s => ret (.nx s)
  | .cons st b, s => bnd (evS cf fu st s) fun r => match r with
    | .nx s' => evB cf fu b s'
    | .ct s' => ret (.ct s')
    | .rt v => ret (.rt v)
  | .frz i b, s => bnd (lift (frzS s i)) fun s' => evB cf fu b s'
end
/-- a def: its parameters, all its slots, its body -/
structure Fn where
  np : Nat
  ns : Nat
  body : B
def startA (f : Fn) (ds : List D) : Sl := ds.map (fun d => some (.i d)) ++ List.replicate (f.ns - ds.length) none
def runF (cf : CF) (fu : Nat) (f : Fn) (ds : List D) : M D := if ds.length = f.np then bnd (evB cf fu f.body (startA f ds)) (fun r => match r with
  | .rt v => ret v
  | .nx _ => ret .none
  | .ct _ => bad) else bad

/-- a primitive, or a def by its code -/
inductive Def where
  | code (f : Fn)
  | prim (p : List D → M D)
def callD (cf : CF) (fu : Nat) : Def → List D → M D
  | .code f, ds => runF cf fu f ds
  | .prim p, ds => p ds
def callN (fs : List Def) (fu : Nat) : Nat → CF
  | 0 => fun _ _ => bad
  | n + 1 => fun f ds => match fs[f]? with
    | some d => callD (callN fs fu n) fu d ds
    | none => bad
end Ev

set_option Elab.async false
set_option linter.all false
set_option maxRecDepth 100000
set_option autoImplicit false
set_option maxHeartbeats 1000000
namespace Zm
open PySem
open PySem.Sem (wp)
/-- at it an iterator over the list (k) or tuple at l, at place i -/
def ItAt (k : Bool) (h : Heap) (it l : Addr) (i : Nat) : Prop := if k = true then h.IsListIter it l i else h.IsTupleIter it l i
/-- at l the list (k) or tuple xs -/
def SqAt (k : Bool) (h : Heap) (l : Addr) (xs : Array Value) : Prop := if k = true then h.IsList l xs else h.IsTuple l xs
def itN (k : Bool) : String := if k = true then "list_iterator" else "tuple_iterator"
section
variable {k : Bool} {h h' : Heap} {a b l : Addr} {i : Nat} {xs : Array Value}
theorem ItAt.but (x : ItAt k h a l i) (e : Heap.ExtBut b h h') (ne : a ≠ b) : ItAt k h' a l i := by
  cases k
  · exact Heap.IsTupleIter.extBut (show h.IsTupleIter a l i from x) e ne
  · exact Heap.IsListIter.extBut (show h.IsListIter a l i from x) e ne
theorem ItAt.mv (x : ItAt k h a l i) (e : ∀ o, h.get? a = some o → h'.get? a = some o) : ItAt k h' a l i := by
  cases k
  · exact Heap.IsTupleIter.at (show h.IsTupleIter a l i from x) e
  · exact Heap.IsListIter.at (show h.IsListIter a l i from x) e
theorem ItAt.obj (x : ItAt k h a l i) : ∃ o fs, h.get? a = some o ∧ o.data = .fields fs := by
  cases k
  · obtain ⟨o, e, _, d⟩ := (show h.IsTupleIter a l i from x)
    exact ⟨o, _, e, d⟩
  · obtain ⟨o, e, _, d⟩ := (show h.IsListIter a l i from x)
    exact ⟨o, _, e, d⟩
theorem ItAt.lt (x : ItAt k h a l i) : a < h.objs.size := by
  obtain ⟨o, _, e, _⟩ := x.obj
  exact Heap.lt_size e
theorem SqAt.but (x : SqAt k h l xs) (e : Heap.ExtBut b h h') (ne : l ≠ b) : SqAt k h' l xs := by
  cases k
  · exact Heap.IsTuple.extBut (show h.IsTuple l xs from x) e ne
  · exact Heap.IsList.extBut (show h.IsList l xs from x) e ne
theorem SqAt.lt (x : SqAt k h l xs) : l < h.objs.size := by
  cases k
  · obtain ⟨o, e, _⟩ := (show h.IsTuple l xs from x)
    exact Heap.lt_size e
  · obtain ⟨o, e, _⟩ := (show h.IsList l xs from x)
    exact Heap.lt_size e
end
section
variable {prog : Program} {w : World} {A : Around} {E : Value → Shared → Prop} {s : Shared}
theorem step_item {k : Bool} {it l : Addr} {i : Nat} {xs : Array Value} {x : Value} {Q : Value → Shared → Prop} (hi : ItAt k s.heap it l i) (hl : SqAt k s.heap l xs) (hx : xs[i]? = some x)
    (fin : ∀ g, ItAt k g it l (i + 1) → Heap.SameBut it s.heap g → Q x { s with heap := g }) : wpAny (model prog w) A (Builtin.SmallTypes.nextOf (.ref it)) Q E s := by
  cases k
  · exact RZ.nextOf_tuple_item hi hl hx fin
  · exact wpAny_nextOf_list_item hi hl hx fin
theorem step_end {k : Bool} {it l : Addr} {i : Nat} {xs : Array Value} {Q : Value → Shared → Prop} (hh : A.handled = none) (hi : ItAt k s.heap it l i) (hl : SqAt k s.heap l xs) (hx : xs[i]? = none)
    (fin : ∀ g e, Heap.ExtBut it s.heap g → (∃ o, g.get? e = some o ∧ o.cls = .type "StopIteration") → E (.ref e) { s with heap := g }) : wpAny (model prog w) A (Builtin.SmallTypes.nextOf (.ref it)) Q E s := by
  cases k
  · exact RZ.nextOf_tuple_end hh hi hl hx fin
  · exact wpAny_nextOf_list_end hh hi hl hx fin

variable {z TI TO i1 i2 l1 l2 : Addr} {k1 k2 : Bool} {n1 n2 : Nat} {xs ys : Array Value} {x y a b : Value}
theorem zip_item {Q : Value → Shared → Prop} (D : ZipApart z TI TO i1 i2 l1 l2) (hz : IsZip s.heap z TI TO .none) (pI : IsPair s.heap TI (.ref i1) (.ref i2)) (pO : IsPair s.heap TO a b)
    (r1 : ItAt k1 s.heap i1 l1 n1) (r2 : ItAt k2 s.heap i2 l2 n2) (q1 : SqAt k1 s.heap l1 xs) (q2 : SqAt k2 s.heap l2 ys) (hx : xs[n1]? = some x) (hy : ys[n2]? = some y)
    (fin : ∀ g, IsZip g z TI TO (rawInt s.heap.objs.size) → IsPair g TO x y → ItAt k1 g i1 l1 (n1 + 1) → ItAt k2 g i2 l2 (n2 + 1) → IsPair g s.heap.objs.size x y → g.objs.size = s.heap.objs.size + 1 →
      (∀ c o, c ≠ z → c ≠ TO → c ≠ i1 → c ≠ i2 → s.heap.get? c = some o → g.get? c = some o) → Q (.ref s.heap.objs.size) { s with heap := g }) :
    wpAny (model prog w) A (Builtin.«zip.__next__» ⟨[.ref z], []⟩) (fun r s' => ∃ v, r = .done (.ret v) ∧ Q v s') E s := by
  show wpAny _ _ (field (.ref z) 2 >>= _) _ _ _
  refine wpAny_bind (wpAny_field (x := .bool false) hz rfl rfl ?_)
  show wpAny _ _ (field (.ref z) 3 >>= _) _ _ _
  refine wpAny_bind (wpAny_field (x := .ref TI) hz rfl rfl ?_)
  refine wpAny_bind (wpAny_seqItems pI rfl ?_)
  show wpAny _ _ (Builtin.SmallTypes.ownedTupleIsFree (.ref z) >>= _) _ _ _
  refine wpAny_bind ?_
  unfold Builtin.SmallTypes.ownedTupleIsFree
  refine wpAny_bind (wpAny_field (x := .none) hz rfl rfl (wpAny_pure ?_))
  simp only [if_true]
  refine wpAny_bind (wpAny_rule ?_)
  refine wpAny_bind (wpAny_field (x := .ref TO) hz rfl rfl ?_)
  refine wpAny_bind (wpAny_setField_rec hz (by simp) fun g1 z1 s1 => ?_)
  have z1 : IsZip g1 z TI TO .ellipsis := z1
  refine wpAny_bind ?_
  simp only [List.zipIdx_cons, List.zipIdx_nil, List.forIn_cons, List.forIn_nil]
  have e1 := s1.extBut
  -- the first
  refine wpAny_bind (wpAny_bind (wpAny_onRaise ?_))
  show wpAny _ _ (Builtin.SmallTypes.nextOf (.ref i1) >>= _) _ _ _
  refine wpAny_bind (step_item (r1.but e1 D.i1z) (q1.but e1 D.l1z) hx fun g2 c1 s2 => wpAny_pure ?_)
  have e2 := s2.extBut
  have o2 : IsPair g2 TO a b := e2 _ _ D.TOi1 (e1 _ _ D.TOz pO)
  refine wpAny_bind (wpAny_seqItems o2 rfl ?_)
  refine wpAny_bind (wpAny_updateSeq_pair o2 fun g3 o3 s3 => ?_)
  have o3 : IsPair g3 TO x b := o3
  have e3 := s3.extBut
  refine wpAny_bind (wpAny_letGo (wpAny_pure ?_))
  -- the second
  refine wpAny_bind (wpAny_bind (wpAny_onRaise ?_))
  show wpAny _ _ (Builtin.SmallTypes.nextOf (.ref i2) >>= _) _ _ _
  refine wpAny_bind (step_item (((r2.but e1 D.i2z).but e2 D.i12.symm).but e3 D.TOi2.symm) (((q2.but e1 D.l2z).but e2 D.l2i1).but e3 D.l2TO) hy fun g4 c2 s4 => wpAny_pure ?_)
  have e4 := s4.extBut
  have o4 : IsPair g4 TO x b := e4 _ _ D.TOi2 o3
  refine wpAny_bind (wpAny_seqItems o4 rfl ?_)
  refine wpAny_bind (wpAny_updateSeq_pair o4 fun g5 o5 s5 => ?_)
  have o5 : IsPair g5 TO x y := o5
  have e5 := s5.extBut
  refine wpAny_bind (wpAny_letGo (wpAny_pure (wpAny_pure ?_)))
  -- the pair
  refine wpAny_bind (wpAny_seqItems o5 rfl ?_)
  refine wpAny_bind (wpAny_newTuple ?_)
  have sz : g5.objs.size = s.heap.objs.size := by rw [s5.1, s4.1, s3.1, s2.1, s1.1]
  have z5 : IsZip g5 z TI TO .ellipsis := e5 _ _ D.TOz.symm (e4 _ _ D.i2z.symm (e3 _ _ D.TOz.symm (e2 _ _ D.i1z.symm z1)))
  have far : ∀ c o, c ≠ z → c ≠ TO → c ≠ i1 → c ≠ i2 → s.heap.get? c = some o → g5.get? c = some o := fun c o n1 n2 n3 n4 e => e5 _ _ n2 (e4 _ _ n4 (e3 _ _ n2 (e2 _ _ n3 (e1 _ _ n1 e))))
  have w1 : ItAt k1 g5 i1 l1 (n1 + 1) := ((c1.but e3 D.TOi1.symm).but e4 D.i12).but e5 D.TOi1.symm
  have w2 : ItAt k2 g5 i2 l2 (n2 + 1) := c2.but e5 D.TOi2.symm
  have ltz : z < g5.objs.size := Heap.lt_size z5
  show wpAny _ _ (Builtin.SmallTypes.ownedTupleHandOut (.ref z) (.ref g5.objs.size) >>= _) _ _ _
  refine wpAny_bind ?_
  unfold Builtin.SmallTypes.ownedTupleHandOut
  have z6 : IsZip (g5.push { cls := .type "tuple", data := .seq #[x, y] }) z TI TO .ellipsis := Heap.get?_push_of_some _ z5
  refine wpAny_bind (wpAny_setField_rec z6 (by simp) fun g7 z7 s7 => ?_)
  have z7 : IsZip g7 z TI TO (rawInt g5.objs.size) := z7
  refine wpAny_setField_rec z7 (by simp) fun g8 z8 s8 => ?_
  have z8 : IsZip g8 z TI TO (rawInt g5.objs.size) := z8
  have up : ∀ c o, c ≠ z → g5.get? c = some o → g8.get? c = some o := fun c o n e => s8.extBut _ _ n (s7.extBut _ _ n (Heap.get?_push_of_some _ e))
  have p8 : IsPair g8 g5.objs.size x y := s8.extBut _ _ (Nat.ne_of_gt ltz) (s7.extBut _ _ (Nat.ne_of_gt ltz) (Heap.get?_push_size _ rfl))
  have sz8 : g8.objs.size = g5.objs.size + 1 := by rw [s8.1, s7.1, Heap.size_push]
  rw [sz] at z8 p8 sz8
  refine wpAny_pure ⟨_, rfl, ?_⟩
  show Q (.ref g5.objs.size) _
  rw [sz]
  exact fin g8 z8 (up _ _ D.TOz o5) (w1.mv fun o e => up _ o D.i1z e) (w2.mv fun o e => up _ o D.i2z e) p8 sz8 fun c o n1 n2 n3 n4 e => up c o n1 (far c o n1 n2 n3 n4 e)

theorem zip_end {Q : Fin → Shared → Prop} (hh : A.handled = none) (D : ZipApart z TI TO i1 i2 l1 l2) (hz : IsZip s.heap z TI TO .none) (pI : IsPair s.heap TI (.ref i1) (.ref i2)) (pO : IsPair s.heap TO a b)
    (r1 : ItAt k1 s.heap i1 l1 n1) (r2 : ItAt k2 s.heap i2 l2 n2) (q1 : SqAt k1 s.heap l1 xs) (q2 : SqAt k2 s.heap l2 ys) (stop : xs[n1]? = none ∨ ys[n2]? = none)
    (fin : ∀ g e, (∀ c o, c ≠ z → c ≠ TO → c ≠ i1 → c ≠ i2 → s.heap.get? c = some o → g.get? c = some o) → (∃ o, g.get? e = some o ∧ o.cls = .type "StopIteration") → E (.ref e) { s with heap := g }) :
    wpAny (model prog w) A (Builtin.«zip.__next__» ⟨[.ref z], []⟩) Q E s := by
  show wpAny _ _ (field (.ref z) 2 >>= _) _ _ _
  refine wpAny_bind (wpAny_field (x := .bool false) hz rfl rfl ?_)
  show wpAny _ _ (field (.ref z) 3 >>= _) _ _ _
  refine wpAny_bind (wpAny_field (x := .ref TI) hz rfl rfl ?_)
  refine wpAny_bind (wpAny_seqItems pI rfl ?_)
  show wpAny _ _ (Builtin.SmallTypes.ownedTupleIsFree (.ref z) >>= _) _ _ _
  refine wpAny_bind ?_
  unfold Builtin.SmallTypes.ownedTupleIsFree
  refine wpAny_bind (wpAny_field (x := .none) hz rfl rfl (wpAny_pure ?_))
  simp only [if_true]
  refine wpAny_bind (wpAny_rule ?_)
  refine wpAny_bind (wpAny_field (x := .ref TO) hz rfl rfl ?_)
  refine wpAny_bind (wpAny_setField_rec hz (by simp) fun g1 z1 s1 => ?_)
  have z1 : IsZip g1 z TI TO .ellipsis := z1
  refine wpAny_bind ?_
  simp only [List.zipIdx_cons, List.zipIdx_nil, List.forIn_cons, List.forIn_nil]
  have e1 := s1.extBut
  refine wpAny_bind (wpAny_bind (wpAny_onRaise ?_))
  show wpAny _ _ (Builtin.SmallTypes.nextOf (.ref i1) >>= _) _ _ _
  cases hx : xs[n1]? with
  | none =>
    refine wpAny_bind (step_end hh (r1.but e1 D.i1z) (q1.but e1 D.l1z) hx fun g2 e e2 ⟨oe, he, ce⟩ => ?_)
    have z2 : IsZip g2 z TI TO .ellipsis := e2 _ _ D.i1z.symm z1
    have ez : e ≠ z := fun q => by
      subst q
      rw [z2] at he
      cases he
      simp at ce
    refine wpAny_setField_rec z2 (by simp) fun g3 _ s3 => fin g3 e (fun c o m1 _ m3 _ q => s3.extBut _ _ m1 (e2 _ _ m3 (e1 _ _ m1 q))) ⟨oe, s3.extBut _ _ ez he, ce⟩
  | some x =>
    have hy : ys[n2]? = none := by
      rcases stop with q | q
      · rw [hx] at q
        cases q
      · exact q
    refine wpAny_bind (step_item (r1.but e1 D.i1z) (q1.but e1 D.l1z) hx fun g2 c1 s2 => wpAny_pure ?_)
    have e2 := s2.extBut
    have o2 : IsPair g2 TO a b := e2 _ _ D.TOi1 (e1 _ _ D.TOz pO)
    refine wpAny_bind (wpAny_seqItems o2 rfl ?_)
    refine wpAny_bind (wpAny_updateSeq_pair o2 fun g3 o3 s3 => ?_)
    have e3 := s3.extBut
    refine wpAny_bind (wpAny_letGo (wpAny_pure ?_))
    refine wpAny_bind (wpAny_bind (wpAny_onRaise ?_))
    show wpAny _ _ (Builtin.SmallTypes.nextOf (.ref i2) >>= _) _ _ _
    refine wpAny_bind (step_end hh (((r2.but e1 D.i2z).but e2 D.i12.symm).but e3 D.TOi2.symm) (((q2.but e1 D.l2z).but e2 D.l2i1).but e3 D.l2TO) hy fun g4 e e4 ⟨oe, he, ce⟩ => ?_)
    have z4 : IsZip g4 z TI TO .ellipsis := e4 _ _ D.i2z.symm (e3 _ _ D.TOz.symm (e2 _ _ D.i1z.symm z1))
    have ez : e ≠ z := fun q => by
      subst q
      rw [z4] at he
      cases he
      simp at ce
    refine wpAny_setField_rec z4 (by simp) fun g5 _ s5 => fin g5 e (fun c o m1 m2 m3 m4 q => s5.extBut _ _ m1 (e4 _ _ m4 (e3 _ _ m2 (e2 _ _ m3 (e1 _ _ m1 q))))) ⟨oe, s5.extBut _ _ ez he, ce⟩

theorem next_item {Q : Option Value → Shared → Prop} (D : ZipApart z TI TO i1 i2 l1 l2) (hz : IsZip s.heap z TI TO .none) (pI : IsPair s.heap TI (.ref i1) (.ref i2)) (pO : IsPair s.heap TO a b)
    (r1 : ItAt k1 s.heap i1 l1 n1) (r2 : ItAt k2 s.heap i2 l2 n2) (q1 : SqAt k1 s.heap l1 xs) (q2 : SqAt k2 s.heap l2 ys) (hx : xs[n1]? = some x) (hy : ys[n2]? = some y)
    (fin : ∀ g, IsZip g z TI TO (rawInt s.heap.objs.size) → IsPair g TO x y → ItAt k1 g i1 l1 (n1 + 1) → ItAt k2 g i2 l2 (n2 + 1) → IsPair g s.heap.objs.size x y → g.objs.size = s.heap.objs.size + 1 →
      (∀ c o, c ≠ z → c ≠ TO → c ≠ i1 → c ≠ i2 → s.heap.get? c = some o → g.get? c = some o) → Q (some (.ref s.heap.objs.size)) { s with heap := g }) :
    wpAny (model prog w) A (pyNext (.ref z)) Q E s := by
  have tz : s.TypeIs (.ref z) "zip" := ⟨_, hz, rfl⟩
  unfold pyNext
  refine wpAny_bind (wpAny_attempt (wpAny_callSpecial?_slot (name := Str.ofString "__next__") tz F.slot_zip_next ?_))
  refine wpAny_call_entry F.slot_zip_next tz F.entry_zip_next ?_ (F.args_zip_next_1 _)
  exact zip_item D hz pI pO r1 r2 q1 q2 hx hy fun g a1 a2 a3 a4 a5 a6 a7 => wpAny_pure (fin g a1 a2 a3 a4 a5 a6 a7)
theorem next_end {Q : Option Value → Shared → Prop} (hh : A.handled = none) (D : ZipApart z TI TO i1 i2 l1 l2) (hz : IsZip s.heap z TI TO .none) (pI : IsPair s.heap TI (.ref i1) (.ref i2)) (pO : IsPair s.heap TO a b)
    (r1 : ItAt k1 s.heap i1 l1 n1) (r2 : ItAt k2 s.heap i2 l2 n2) (q1 : SqAt k1 s.heap l1 xs) (q2 : SqAt k2 s.heap l2 ys) (stop : xs[n1]? = none ∨ ys[n2]? = none)
    (fin : ∀ g, (∀ c o, c ≠ z → c ≠ TO → c ≠ i1 → c ≠ i2 → s.heap.get? c = some o → g.get? c = some o) → Q none { s with heap := g }) : wpAny (model prog w) A (pyNext (.ref z)) Q E s := by
  have tz : s.TypeIs (.ref z) "zip" := ⟨_, hz, rfl⟩
  unfold pyNext
  refine wpAny_bind (wpAny_attempt (wpAny_callSpecial?_slot (name := Str.ofString "__next__") tz F.slot_zip_next ?_))
  refine wpAny_call_entry F.slot_zip_next tz F.entry_zip_next ?_ (F.args_zip_next_1 _)
  refine zip_end hh D hz pI pO r1 r2 q1 q2 stop fun g e far ⟨oe, he, ce⟩ => ?_
  refine wpAny_bind (wpAny_isInstance (T := "StopIteration") (b := true) ⟨oe, he, ce⟩ isSubtype_stop ?_)
  exact wpAny_pure (fin g far)
end

abbrev mH1 (k1 : Bool) (h : Heap) (l1 : Addr) : Heap := h.push { cls := .type (itN k1), data := .fields #[.ref l1, .int 0 0] }
abbrev mH2 (k1 k2 : Bool) (h : Heap) (l1 l2 : Addr) : Heap := (mH1 k1 h l1).push { cls := .type (itN k2), data := .fields #[.ref l2, .int 0 0] }
abbrev mH3 (k1 k2 : Bool) (h : Heap) (l1 l2 : Addr) : Heap := (mH2 k1 k2 h l1 l2).push { cls := .type "tuple", data := .seq #[.ref h.objs.size, .ref (mH1 k1 h l1).objs.size] }
abbrev mH4 (k1 k2 : Bool) (h : Heap) (l1 l2 : Addr) : Heap := (mH3 k1 k2 h l1 l2).push { cls := .type "tuple", data := .seq #[.none, .none] }
abbrev mH5 (k1 k2 : Bool) (h : Heap) (l1 l2 : Addr) : Heap := (mH4 k1 k2 h l1 l2).push { cls := .type "zip", data := .fields #[.none, .bool false, .bool false, .ref (mH2 k1 k2 h l1 l2).objs.size, .ref (mH3 k1 k2 h l1 l2).objs.size] }

theorem meets_lt (l1 l2 : Addr) (xs ys : Array Value) : Meets (Builtin.«zip.__new__» ⟨[.type "zip", .ref l1, .ref l2], []⟩) (fun _ R s => s.heap.IsList l1 xs ∧ s.heap.IsTuple l2 ys ∧
      R (.ok (.ret (.ref (mH4 true false s.heap l1 l2).objs.size))) { s with heap := mH5 true false s.heap l1 l2 }) :=
  .of_wp fun prog w A R s h => by
    obtain ⟨hp, g, d, tk, os⟩ := s
    obtain ⟨p1, p2, h⟩ := h
    have sub := sub_zip
    have L1 : Heap.IsList (Shared.heap ⟨hp, g, d, tk, os⟩) l1 xs := p1
    have L2 : Heap.IsTuple (Shared.heap ⟨hp.push { cls := .type "list_iterator", data := .fields #[.ref l1, .int 0 0] }, g, d, tk, os⟩) l2 ys := Heap.IsTuple.push p2 _
    wp_walk using wpAny_pyIter_list L1, wpAny_pyIter_tuple L2
    exact ⟨_, rfl, h⟩
theorem meets_tl (l1 l2 : Addr) (xs ys : Array Value) : Meets (Builtin.«zip.__new__» ⟨[.type "zip", .ref l1, .ref l2], []⟩) (fun _ R s => s.heap.IsTuple l1 xs ∧ s.heap.IsList l2 ys ∧
      R (.ok (.ret (.ref (mH4 false true s.heap l1 l2).objs.size))) { s with heap := mH5 false true s.heap l1 l2 }) :=
  .of_wp fun prog w A R s h => by
    obtain ⟨hp, g, d, tk, os⟩ := s
    obtain ⟨p1, p2, h⟩ := h
    have sub := sub_zip
    have L1 : Heap.IsTuple (Shared.heap ⟨hp, g, d, tk, os⟩) l1 xs := p1
    have L2 : Heap.IsList (Shared.heap ⟨hp.push { cls := .type "tuple_iterator", data := .fields #[.ref l1, .int 0 0] }, g, d, tk, os⟩) l2 ys := Heap.IsList.push p2 _
    wp_walk using wpAny_pyIter_tuple L1, wpAny_pyIter_list L2
    exact ⟨_, rfl, h⟩
section
variable {prog : Program} {w : World} {A : Around} {E : Value → Shared → Prop} {s : Shared}
/-- zip(..) of two sequences -/
theorem call_zip {k1 k2 : Bool} {l1 l2 : Addr} {xs ys : Array Value} {Q : Value → Shared → Prop} (p1 : SqAt k1 s.heap l1 xs) (p2 : SqAt k2 s.heap l2 ys)
    (fin : ∀ g, IsZip g (s.heap.objs.size + 4) (s.heap.objs.size + 2) (s.heap.objs.size + 3) .none → IsPair g (s.heap.objs.size + 2) (.ref s.heap.objs.size) (.ref (s.heap.objs.size + 1)) → IsPair g (s.heap.objs.size + 3) .none .none →
      ItAt k1 g s.heap.objs.size l1 0 → ItAt k2 g (s.heap.objs.size + 1) l2 0 → (∀ c o, s.heap.get? c = some o → g.get? c = some o) → Q (.ref (s.heap.objs.size + 4)) { s with heap := g }) :
    wpAny (model prog w) A (call (.type "zip") [.ref l1, .ref l2]) Q E s := by
  have z1 : (mH1 k1 s.heap l1).objs.size = s.heap.objs.size + 1 := Heap.size_push ..
  have z2 : (mH2 k1 k2 s.heap l1 l2).objs.size = s.heap.objs.size + 2 := by rw [Heap.size_push, z1]
  have z3 : (mH3 k1 k2 s.heap l1 l2).objs.size = s.heap.objs.size + 3 := by rw [Heap.size_push, z2]
  have z4 : (mH4 k1 k2 s.heap l1 l2).objs.size = s.heap.objs.size + 4 := by rw [Heap.size_push, z3]
  have g5 : (mH5 k1 k2 s.heap l1 l2).get? (mH4 k1 k2 s.heap l1 l2).objs.size = some _ := Heap.get?_push_size _ rfl
  have g4 : (mH5 k1 k2 s.heap l1 l2).get? (mH3 k1 k2 s.heap l1 l2).objs.size = some _ := Heap.get?_push_of_some _ (Heap.get?_push_size _ rfl)
  have g3 : (mH5 k1 k2 s.heap l1 l2).get? (mH2 k1 k2 s.heap l1 l2).objs.size = some _ := Heap.get?_push_of_some _ (Heap.get?_push_of_some _ (Heap.get?_push_size _ rfl))
  have g2 : (mH5 k1 k2 s.heap l1 l2).get? (mH1 k1 s.heap l1).objs.size = some _ := Heap.get?_push_of_some _ (Heap.get?_push_of_some _ (Heap.get?_push_of_some _ (Heap.get?_push_size _ rfl)))
  have g1 : (mH5 k1 k2 s.heap l1 l2).get? s.heap.objs.size = some _ := Heap.get?_push_of_some _ (Heap.get?_push_of_some _ (Heap.get?_push_of_some _ (Heap.get?_push_of_some _ (Heap.get?_push_size _ rfl))))
  have far : ∀ c o, s.heap.get? c = some o → (mH5 k1 k2 s.heap l1 l2).get? c = some o := fun c o x => Heap.get?_push_of_some _ (Heap.get?_push_of_some _ (Heap.get?_push_of_some _ (Heap.get?_push_of_some _ (Heap.get?_push_of_some _ x))))
  have i1 : ItAt k1 (mH5 k1 k2 s.heap l1 l2) s.heap.objs.size l1 0 := by
    cases k1
    · exact ⟨_, g1, rfl, rfl⟩
    · exact ⟨_, g1, rfl, rfl⟩
  have i2 : ItAt k2 (mH5 k1 k2 s.heap l1 l2) (s.heap.objs.size + 1) l2 0 := by
    rw [← z1]
    cases k2
    · exact ⟨_, g2, rfl, rfl⟩
    · exact ⟨_, g2, rfl, rfl⟩
  have key := fin (mH5 k1 k2 s.heap l1 l2) (by rw [← z4, ← z2, ← z3]; exact g5) (by rw [← z2, ← z1]; exact g3) (by rw [← z3]; exact g4) i1 i2 far
  rw [← z4] at key
  have m : Meets (Builtin.«zip.__new__» ⟨[.type "zip", .ref l1, .ref l2], []⟩) (fun _ R s => SqAt k1 s.heap l1 xs ∧ SqAt k2 s.heap l2 ys ∧ R (.ok (.ret (.ref (mH4 k1 k2 s.heap l1 l2).objs.size))) { s with heap := mH5 k1 k2 s.heap l1 l2 }) := by
    cases k1 <;> cases k2
    · exact RZ.meets_zipT_new l1 l2 xs ys
    · exact meets_tl l1 l2 xs ys
    · exact meets_lt l1 l2 xs ys
    · exact meets_zip_new l1 l2 xs ys
  exact callType_new F.called_zip (by decide) (F.typeCall_zip_2 _ _) (F.newCall_zip_2 _ _) (fun obj => F.args_object_init_3 obj _ _) F.entry_zip_new m ⟨p1, p2, ⟨⟨_, g5, rfl⟩, key⟩⟩
end
end Zm

namespace L2
open PySem PySem.Spec PyProof.Rows
/-- the list (k) or tuple at a -/
def SqX (k : Bool) (K : PySem.W.Frag) (H : Hp) (a : Addr) (xs : List V) : Prop := if k = true then SqL K H a xs else SqT K H a xs
theorem Inv.seqX {X : Cx} {pins : List (Addr × Obj)} {σ : L2.St} {H : Hp} {s : Shared} {k : Bool} {a : Addr} {xs : List V} (I : Inv X pins σ H s) (h : SqX k X.K H a xs) : ∃ its, Vals xs its ∧ Zm.SqAt k s.heap a its.toArray := by
  cases k
  · obtain ⟨its, rv, p, _⟩ := I.tuple (show SqT X.K H a xs from h)
    exact ⟨its, rv, p⟩
  · obtain ⟨its, rv, p, _⟩ := I.list (show SqL X.K H a xs from h)
    exact ⟨its, rv, p.isList⟩
theorem Inv.seqX_inj {X : Cx} {pins : List (Addr × Obj)} {σ : L2.St} {H : Hp} {s : Shared} {k : Bool} {a : Addr} {xs ys : List V} (I : Inv X pins σ H s) (h : SqX k X.K H a xs) (h' : SqX k X.K H a ys) : xs = ys := by
  cases k
  · exact I.tuple_inj (show SqT X.K H a xs from h) (show SqT X.K H a ys from h')
  · exact I.list_inj (show SqL X.K H a xs from h) (show SqL X.K H a ys from h')
/-- the sequences at a and b, walked together -/
def ItzX (k1 k2 : Bool) (K : PySem.W.Frag) (a b : Addr) : It :=
  ⟨fun i H => ∃ (xs ys : List V) (x y : V), SqX k1 K H a xs ∧ SqX k2 K H b ys ∧ xs[i]? = some x ∧ ys[i]? = some y,
   fun i H v H' => ∃ T x y, v = .ref T ∧ H T = none ∧ H' = upd H T (.tup [x, y]) ∧ (∀ xs, SqX k1 K H a xs → xs[i]? = some x) ∧ (∀ ys, SqX k2 K H b ys → ys[i]? = some y),
   fun i H => ∃ (xs ys : List V), SqX k1 K H a xs ∧ SqX k2 K H b ys ∧ (xs.length ≤ i ∨ ys.length ≤ i)⟩
theorem five {c z t o i j : Addr} (h : c ∈ [z, t, o, i, j]) : c = z ∨ c = t ∨ c = o ∨ c = i ∨ c = j := by simpa using h
theorem turn_zipX {P : Program} {w : World} {K : PySem.W.Frag} {elts : List Expr} {kk : Nat} {tpos : Pos} {k1 k2 : Bool} {a b z TI TO i1 i2 : Addr} (D : ZipApart z TI TO i1 i2 a b) :
    Turn P w K (.Tuple elts kk tpos) (ItzX k1 k2 K a b) [z, TI, TO, i1, i2] z (fun i h => IsZip h z TI TO .none ∧ IsPair h TI (.ref i1) (.ref i2) ∧ (∃ x y, IsPair h TO x y) ∧ Zm.ItAt k1 h i1 a i ∧ Zm.ItAt k2 h i2 b i) where
  mem := List.mem_cons_self
  obj := fun i h ⟨hz, pI, ⟨x, y, pO⟩, r1, r2⟩ c hc => by
    obtain ⟨o1, f1, e1, d1⟩ := r1.obj
    obtain ⟨o2, f2, e2, d2⟩ := r2.obj
    rcases five hc with rfl | rfl | rfl | rfl | rfl
    · exact ⟨_, hz, fun v q => nomatch q⟩
    · exact ⟨_, pI, fun v q => nomatch q⟩
    · exact ⟨_, pO, fun v q => nomatch q⟩
    · exact ⟨o1, e1, fun v q => by rw [d1] at q; cases q⟩
    · exact ⟨o2, e2, fun v q => by rw [d2] at q; cases q⟩
  keep := fun i h h' ⟨hz, pI, ⟨x, y, pO⟩, r1, r2⟩ k => ⟨k z (by simp) _ hz, k TI (by simp) _ pI, ⟨x, y, k TO (by simp) _ pO⟩, r1.mv fun o q => k i1 (by simp) o q, r2.mv fun o q => k i2 (by simp) o q⟩
  item := by
    intro X eP eW eK hc i pins s σ H E I hf st hg
    subst eP eW eK
    obtain ⟨hz, pI, ⟨x0, y0, pO⟩, r1, r2⟩ := st
    obtain ⟨xs, ys, x, y, sx, sy, hx, hy⟩ := hg
    obtain ⟨us, rv1, p1⟩ := I.seqX sx
    obtain ⟨vs, rv2, p2⟩ := I.seqX sy
    obtain ⟨u, hu, ru⟩ := rv1.get hx
    obtain ⟨v, hv, rv⟩ := rv2.get hy
    have zl : z < s.heap.objs.size := Heap.lt_size hz
    refine Zm.next_item D hz pI pO r1 r2 p1 p2 (x := u) (y := v) (by simpa using hu) (by simpa using hv) fun g gz gO g1 g2 gT gs far => ?_
    refine ⟨_, rfl, wpAny_letOwnedTupleGo_zip (s := { s with heap := g }) gz fun g' gz' sb => ?_⟩
    have keep5 : ∀ c o, c ∉ [z, TI, TO, i1, i2] → s.heap.get? c = some o → g'.get? c = some o := fun c o hb q => by
      have m1 : c ≠ z := fun e => hb (by simp [e])
      exact (sb.2 c m1).trans (far c o m1 (fun e => hb (by simp [e])) (fun e => hb (by simp [e])) (fun e => hb (by simp [e])) q)
    have gT' : g'.get? s.heap.objs.size = some { cls := .type "tuple", data := .seq #[u, v] } := (sb.2 _ (Nat.ne_of_gt zl)).trans gT
    have new : ObjOk X.prog X.w (upd H s.heap.objs.size (.tup [x, y])) g' s.heap.objs.size (.tup [x, y]) := ⟨by show 2 ≤ sizeLine; decide, [u, v], .cons ru (.cons rv .nil), ⟨_, gT', rfl, _, rfl⟩⟩
    have J : Inv X pins σ (upd H s.heap.objs.size (.tup [x, y])) { s with heap := g' } := I.turnedNew (t' := s.toks) (ch := [z, TI, TO, i1, i2]) keep5 hf (Nat.le_refl _) new
    refine ⟨.ref s.heap.objs.size, _, J, rfl, ⟨_, x, y, rfl, I.hok.fresh (Nat.le_refl _), rfl, fun l hl => by rw [I.seqX_inj hl sx]; exact hx, fun l hl => by rw [I.seqX_inj hl sy]; exact hy⟩, ⟨gz', ?_, ⟨u, v, ?_⟩, ?_, ?_⟩, fun c hcm => ?_⟩
    · exact (sb.2 _ D.TIz).trans (far _ _ D.TIz D.TITO D.TIi1 D.TIi2 pI)
    · exact (sb.2 _ D.TOz).trans gO
    · exact g1.mv fun o q => (sb.2 _ D.i1z).trans q
    · exact g2.mv fun o q => (sb.2 _ D.i2z).trans q
    · have lt : c < s.heap.objs.size := by
        rcases five hcm with rfl | rfl | rfl | rfl | rfl
        · exact zl
        · exact Heap.lt_size pI
        · exact Heap.lt_size pO
        · exact r1.lt
        · exact r2.lt
      rw [upd_ne (Nat.ne_of_lt lt)]
      exact (hf c hcm).1
  done := by
    intro X eP eW eK hc i pins s σ H E I hf st hg
    subst eP eW eK
    obtain ⟨hz, pI, ⟨x0, y0, pO⟩, r1, r2⟩ := st
    obtain ⟨xs, ys, sx, sy, stop⟩ := hg
    obtain ⟨us, rv1, p1⟩ := I.seqX sx
    obtain ⟨vs, rv2, p2⟩ := I.seqX sy
    have n1 := rv1.length
    have n2 := rv2.length
    have he : us.toArray[i]? = none ∨ vs.toArray[i]? = none := by
      rcases stop with q | q
      · left
        simp
        omega
      · right
        simp
        omega
    exact Zm.next_end (I.ok.hd hc) D hz pI pO r1 r2 p1 p2 he fun g far => ⟨rfl, I.turnedL (t' := s.toks) (ch := [z, TI, TO, i1, i2]) (fun c o hb q =>
      far c o (fun e => hb (by simp [e])) (fun e => hb (by simp [e])) (fun e => hb (by simp [e])) (fun e => hb (by simp [e])) q) hf⟩
  self := fun A i s Q E st h => wpAny_pyIter_zip st.1 h

def iZipX (K : PySem.W.Frag) (ta : TA) : TI := fun σ H R => ta σ H fun vs H1 => ∃ a b xs ys k1 k2, vs = [.ref a, .ref b] ∧ SqX k1 K H1 a xs ∧ SqX k2 K H1 b ys ∧ R (ItzX k1 k2 K a b) H1
theorem pi_zipX {X : Cx} {e e2 : Expr} {ta : TA} {p pos tpos : Pos} {elts : List Expr} {kk : Nat} (hg : Gl X "zip") (hm : X.mg "zip" = none) (ha : PA X [e, e2] ta) (hs : starEach [e, e2] X.env = (false, eval e X.env) :: starEach [e2] X.env)
    (hpl : (backTo pos (starEach [e2] X.env)).any (·.1) = false) : PI X (.Tuple elts kk tpos) (.Call (.Name "zip" p) [e, e2] [] pos) (iZipX X.K ta) := by
  refine ⟨fun pins s σ H R I h => ?_⟩
  refine Call_ (ld_blt I hg hm PyProof.Rows.boot_zip (PyProof.Rows.callWith_type1 (thn (ha.run pos pins s σ H _ I h) fun us s1 ⟨vs, H1, J, r1, q1⟩ => ?_) hs hpl))
  obtain ⟨a, b, xs, ys, k1, k2, rfl, sx, sy, q⟩ := q1
  cases r1 with
  | cons r rr =>
    cases rr with
    | cons r' rr =>
      cases rr
      cases r
      cases r'
      obtain ⟨us, rv1, p1⟩ := J.seqX sx
      obtain ⟨vs, rv2, p2⟩ := J.seqX sy
      refine Zm.call_zip p1 p2 fun g gz gI gO g1 g2 far => wpAny_pyIter_zip gz ?_
      have J2 : Inv X pins σ H1 { s1 with heap := g } := J.kept (t' := s1.toks) far
      refine ⟨s1.heap.objs.size + 4, [s1.heap.objs.size + 4, s1.heap.objs.size + 2, s1.heap.objs.size + 3, s1.heap.objs.size, s1.heap.objs.size + 1], _, _, H1, rfl, J2, turn_zipX (PySem.W.ktu_apart s1.heap.objs.size a b p1.lt p2.lt), ⟨gz, gI, ⟨_, _, gO⟩, g1, g2⟩, fun c hc => ?_, q⟩
      have le : s1.heap.objs.size ≤ c := by
        rcases five hc with rfl | rfl | rfl | rfl | rfl <;> omega
      exact J.fpOk le (J.hok.fresh le)
end L2

set_option Elab.async false
set_option linter.all false
set_option maxRecDepth 100000
set_option maxHeartbeats 4000000
namespace L2
open PySem PySem.Spec PyProof.Rows
theorem tuple_mul0 (l : Addr) (items : Array Value) (n : Nat) (dd : Option Addr) (sl : Array (Option Value)) (x : Int) (u : Tok) (c0 : (decide (x < -(2 ^ 63)) || decide (x ≥ 2 ^ 63)) = false) (c1 : (items.isEmpty || x == 1) = true) :
    Meets (Builtin.«tuple.__mul__» ⟨[.ref l, .int x u], []⟩) (fun _ R s => s.heap.get? l = some { cls := .type "tuple", dict := dd, data := .seq items n, slots := sl } ∧ R (.ok (.ret (Value.ref l))) s) :=
  .of_wp fun prog w A R s h => by
    obtain ⟨hp, g, d, tk, os⟩ := s
    obtain ⟨hl, h⟩ := h
    have f1 := AutoSeq1.idx_int
    wp_walk using wpAny_loadPart' hl
    repeat (first
      | (refine wpAny_ite_false (decide_eq_false (by rw [c0]; exact Bool.false_ne_true)) ?_; wp_walk using wpAny_loadPart' hl)
      | (refine wpAny_ite_true (decide_eq_true (by rw [c1])) ?_; wp_walk using wpAny_loadPart' hl))
    exact ⟨_, rfl, h⟩
def rRepT0 (K : PySem.W.Frag) : R2 := fun x y H Q => ∃ l k xs, x = .ref l ∧ y = .int k ∧ SqT K H l xs ∧ xs = [] ∧ -1000 ≤ k ∧ k ≤ 1000 ∧ Q (.ref l) H
theorem op_repT0 {X : Cx} : OpR X (binaryOp .Mult) (rRepT0 X.K) := by
  intro pins s σ H x y v u Q I rx ry h
  obtain ⟨l, k, xs, rfl, rfl, hT, hne, h1, h2, q⟩ := h
  cases rx
  obtain ⟨t, rfl⟩ := ry
  obtain ⟨its, r, ⟨⟨cls, dd, data, sl⟩, ho, hc, n, hd⟩, hs⟩ := I.tuple hT
  simp only at hc hd
  subst hc hd
  subst hne
  have hi : its = [] := List.eq_nil_of_length_eq_zero r.length.symm
  subst hi
  have c0 : (decide (k < -(2 ^ 63)) || decide (k ≥ 2 ^ 63)) = false := by
    rw [decide_eq_false (by omega), decide_eq_false (by omega)] <;> rfl
  refine wpAny_binaryOp_repeat_ref (T := "tuple") (U := "int") (by decide) ⟨_, ho, rfl⟩ (fun s' => typeIs_int s' k t) noFill_tuple_mul F.fills_int_mul F.slot_int_rmul repeat_tuple F.slot_int_index.lookup
    (call_meets F.slot_int_rmul (typeIs_int s k t) F.entry_int_rmul (F.args_int_rmul_2 _ _) (int_rmul_tuple k t l (List.toArray []) n dd sl)
      ⟨ho, rfl, ⟨_, ho, rfl⟩, call_meets F.slot_tuple_mul ⟨_, ho, rfl⟩ F.entry_tuple_mul (F.args_tuple_mul_2 _ _) (tuple_mul0 l (List.toArray []) n dd sl k t c0 rfl) ⟨ho, ?_⟩⟩)
  exact ⟨.ref l, H, I, rfl, q⟩
end L2

set_option Elab.async false
set_option linter.all false
set_option maxRecDepth 100000
set_option autoImplicit false
namespace Ev
open PySem PySem.Spec PyProof.Rows L2
/-- the wish for a new tuple of these items -/
def NewT (Q : VK) (H : Hp) (xs : List V) : Prop := ∀ (p : Addr) (o : Obj), H p = none → o.dict = none → Q (.ref p) (upd H p (.frz o (.tup xs)))
section
variable {X : Cx} {pins : List (Addr × Obj)} {σ : L2.St} {H : Hp} {s : Shared} {xs : List V} {its : List Value} {Q : VK}
theorem newT {h' : Heap} {ob : Obj} {n t' : Nat} (I : Inv X pins σ H s) (hz : xs.length ≤ sizeLine) (r : Vals xs its) (hk : ∀ b u, s.heap.get? b = some u → h'.get? b = some u) (hg : h'.get? s.heap.objs.size = some ob) (hc : ob.cls = .type "tuple") (hd : ob.dict = none) (hs : ob.data = .seq its.toArray n) (q : NewT Q H xs) :
    EP X pins σ Q (.ref s.heap.objs.size) { s with heap := h', toks := t' } :=
  ⟨.ref s.heap.objs.size, _, I.laid (o := .frz ob (.tup xs)) hk (Nat.le_refl _) ⟨hg, hz, its, r, ob, hg, hc, n, hs⟩, rfl, q _ _ (I.hok.fresh (Nat.le_refl _)) hd⟩
/-- the object is pushed -/
theorem pushT (I : Inv X pins σ H s) (hz : xs.length ≤ sizeLine) (r : Vals xs its) (q : NewT Q H xs) : EP X pins σ Q (.ref s.heap.objs.size) { s with heap := s.heap.push { cls := .type "tuple", data := .seq its.toArray } } :=
  newT (t' := s.toks) I hz r (fun b u e => Heap.get?_push_of_some _ e) (Heap.get?_push_size _ rfl) rfl rfl rfl q
end
/-- new things at these places are told -/
theorem takeF {X : Cx} {pins : List (Addr × Obj)} {σ : L2.St} {H0 : Hp} {s : Shared} {h' : Heap} {tk : Nat} {P : Addr → HO → Prop} (J : Inv X pins σ H0 s) : ∀ (as : List Addr) (H1 : Hp), Inv X pins σ H1 { s with heap := h', toks := tk } → as.Nodup →
    (∀ a ∈ as, s.heap.objs.size ≤ a ∧ H1 a = none ∧ ∃ o, P a o ∧ ∀ H2, ObjOk X.prog X.w H2 h' a o) → ∃ H2, Inv X pins σ H2 { s with heap := h', toks := tk } ∧ (∀ b o, H1 b = some o → H2 b = some o) ∧ ∀ a ∈ as, ∃ o, P a o ∧ H2 a = some o
  | [], H1, I, _, _ => ⟨H1, I, fun _ _ e => e, fun _ z => nomatch z⟩
  | c :: as, H1, I, nd, h => by
    have nd' := List.nodup_cons.mp nd
    obtain ⟨q1, q2, o, hp, q3⟩ := h c List.mem_cons_self
    have J2 : Inv X pins σ (upd H1 c o) { s with heap := h', toks := tk } := I.take (h' := h') (t' := tk) (fun _ _ _ e => e) (J.fpOk q1 q2) (q3 _)
    obtain ⟨H2, J3, g, r⟩ := takeF J as (upd H1 c o) J2 nd'.2 fun d hd => by
      obtain ⟨w1, w2, w3⟩ := h d (List.mem_cons_of_mem _ hd)
      have hne : d ≠ c := fun e => nd'.1 (e ▸ hd)
      exact ⟨w1, by rw [upd_ne hne]; exact w2, w3⟩
    refine ⟨H2, J3, fun b u e => g b u ?_, fun d hd => ?_⟩
    · rw [upd_ne (ne_of_none e q2)]
      exact e
    · rcases List.mem_cons.mp hd with e | hd
      · subst e
        exact ⟨o, hp, g _ _ upd_same⟩
      · exact r d hd
section
variable {X : Cx}
/-- a display -/
def tTupN (t : TA) : TE := fun σ H Q => t σ H fun xs H1 => xs.length ≤ sizeLine ∧ NewT Q H1 xs
theorem pe_tupN {es : List Expr} {t : TA} {x1 : Nat} {pos : Pos} (h : PA X es t) : PE X (.Tuple es x1 pos) (tTupN t) :=
  ⟨fun pins s σ H Q I hq => wpAny_Tuple_spliced (thn (h.run pos pins s σ H _ I hq) fun us s1 ⟨xs, H1, I1, r, z, q⟩ => ⟨by have := r.length; omega, pushT I1 z r q⟩)⟩
/-- t + u -/
def rCatN (K : PySem.W.Frag) : R2 := fun x y H Q => ∃ a b xs ys, x = .ref a ∧ y = .ref b ∧ SqT K H a xs ∧ SqT K H b ys ∧ xs.length + ys.length ≤ sizeLine ∧
  (xs = [] → Q (.ref b) H) ∧ (xs ≠ [] → ys = [] → Q (.ref a) H) ∧ (xs ≠ [] → ys ≠ [] → NewT Q H (xs ++ ys))
theorem op_catN : OpR X (binaryOp .Add) (rCatN X.K) := by
  intro pins s σ H x y v u Q I rx ry ⟨a, b, xs, ys, ex, ey, ha, hb, hz, q0, q1, q2⟩
  subst ex ey
  cases rx; cases ry
  obtain ⟨is1, r1, p1, _⟩ := I.tuple ha
  obtain ⟨is2, r2, p2, _⟩ := I.tuple hb
  have n1 := r1.nil_iff
  have n2 := r2.nil_iff
  have l1 := r1.length
  have l2 := r2.length
  by_cases hx : xs = []
  · rw [n1.mpr hx] at p1
    exact cat_tup0 p1 p2 ⟨.ref b, H, I, rfl, q0 hx⟩
  · exact HT.cat_tup p1 p2 (fun c => hx (n1.mp c)) (fun c => ⟨.ref a, H, I, rfl, q1 hx (n2.mp c)⟩) (fun c => pushT I (by rw [List.length_append]; exact hz) (r1.append r2) (q2 hx fun d => c (n2.mpr d))) (by omega)
/-- t[lo:hi] -/
def rSlN (K : PySem.W.Frag) : V → Option Int → Option Int → Hp → VK → Prop := fun x lo hi H Q => ∃ a xs, x = .ref a ∧ SqT K H a xs ∧
  (HT.sIx xs.length 0 lo = 0 ∧ HT.sIx xs.length xs.length hi = xs.length → Q (.ref a) H) ∧ (¬ (HT.sIx xs.length 0 lo = 0 ∧ HT.sIx xs.length xs.length hi = xs.length) → NewT Q H (cutV xs lo hi))
theorem sl_tupN : L2.SlR X (rSlN X.K) := by
  intro pins s σ H x v vl vu lo hi sl Q I rx hs pl pu ⟨a, xs, ex, hx, q1, q2⟩
  subst ex
  cases rx
  obtain ⟨is, r, ht, hz⟩ := I.tuple hx
  have hl : is.toArray.size = xs.length := by have := r.length; simp; omega
  refine ⟨"tuple", _, PyProof.Rows.slot_tuple_getitem.lookup, ht.typeIs, ?_⟩
  by_cases hw : HT.sIx xs.length 0 lo = 0 ∧ HT.sIx xs.length xs.length hi = xs.length
  · exact getItem_tuple_whole ht hs pl pu (by rw [hl]; exact hw) ⟨.ref a, H, I, rfl, q1 hw⟩
  · refine HT.getItem_tuple_cut ht hs pl pu (by rw [hl]; exact hw) ?_ (by omega)
    rw [hl]
    exact pushT I (Nat.le_trans (cutV_length xs lo hi) hz) ((r.drop _).take _) (q2 hw)
/-- tuple(xs) -/
theorem call_tupleN : CallR X (.type "tuple") (fun xs H Q => ∃ p ys, xs = [.ref p] ∧ ((SqL X.K H p ys ∧ NewT Q H ys) ∨ (SqT X.K H p ys ∧ Q (.ref p) H))) := by
  intro pins s σ H xs us Q I r ⟨p, ys, ex, h⟩
  subst ex
  obtain ⟨u, eu, rx⟩ := vals1 r
  subst eu
  cases rx
  rcases h with ⟨hq, q⟩ | ⟨hq, q⟩
  · obtain ⟨is, rv, pl, hz⟩ := I.list hq
    refine call_tuple_list pl.isList (fun h' kp => ?_) (by have := rv.length; simp; omega)
    have I1 : Inv X pins σ H { s with heap := h' } := I.kept (t' := s.toks) kp
    exact pushT I1 hz rv q
  · obtain ⟨is, rv, pl, hz⟩ := I.tuple hq
    exact call_tuple_same pl ⟨.ref p, H, I, rfl, q⟩
/-- t * k -/
def rRepN (K : PySem.W.Frag) : R2 := fun x y H Q => ∃ l k xs, x = .ref l ∧ y = .int k ∧ SqT K H l xs ∧ xs ≠ [] ∧ 2 ≤ k ∧ k ≤ 1000 ∧ xs.length ≤ 1000 ∧ NewT Q H (List.replicate k.toNat xs).flatten
theorem op_repN : OpR X (binaryOp .Mult) (rRepN X.K) := by
  intro pins s σ H x y v u Q I rx ry ⟨l, k, xs, ex, ey, hT, hne, k2, k3, hz, q⟩
  subst ex ey
  cases rx
  obtain ⟨t, rfl⟩ := ry
  obtain ⟨is, r, ⟨⟨cls, dd, data, sl⟩, ho, hc, n, hd⟩, _⟩ := I.tuple hT
  simp only at hc hd
  subst hc hd
  have hl := r.length
  have hi : is.toArray.isEmpty = false := by
    cases is with
    | nil => exact absurd (List.eq_nil_of_length_eq_zero hl) hne
    | cons _ _ => rfl
  have hm : xs.length * k.toNat ≤ 1000000 := by
    have := Nat.mul_le_mul hz (show k.toNat ≤ 1000 by omega)
    omega
  have hmi : ((is.toArray.size : Nat) : Int) * k ≤ 1000000 := by
    have e1 : is.toArray.size = xs.length := by simp; omega
    rw [e1]
    have e2 : ((xs.length * k.toNat : Nat) : Int) = (xs.length : Int) * k := by
      rw [Int.natCast_mul, Int.toNat_of_nonneg (by omega)]
    omega
  have hf : (List.replicate k.toNat is).flatten.length ≤ sizeLine := by
    rw [PyProof.Rows.lm_len_rep_flat, sizeLine_eq, ← hl, Nat.mul_comm]
    omega
  have c0 : (decide (k < -(2 ^ 63)) || decide (k ≥ 2 ^ 63)) = false := by simp; omega
  have c1 : (is.toArray.isEmpty || k == 1) = false := by rw [hi]; simp; omega
  have c2 : (decide (k ≤ 0) || is.toArray.isEmpty) = false := by rw [hi]; simp; omega
  have c4 : Builtin.Tuple.tupleTooMany (((is.toArray.size : Nat) : Int) * k) = false := by
    unfold Builtin.Tuple.tupleTooMany
    rw [sizeLine_eq, decide_eq_false (by omega)]
  have B := call_meets (A := X.A) (E := X.xe) (Q := EP X pins σ Q) F.slot_tuple_mul (show s.TypeIs (.ref l) "tuple" from ⟨_, ho, rfl⟩) F.entry_tuple_mul (F.args_tuple_mul_2 _ _) (tuple_mulW l is.toArray n dd sl k t c0 c1 c2 (by omega) c4 (by rw [size_rep, List.size_toArray]; exact hf)) (prog := X.prog) (w := X.w) (s := s)
    ⟨ho, by rw [size_rep]; exact pushT I (by rw [PyProof.Rows.lm_len_rep_flat, sizeLine_eq, Nat.mul_comm]; omega) (r.rep k.toNat) q⟩
  exact wpAny_binaryOp_repeat_ref (T := "tuple") (U := "int") (by decide) ⟨_, ho, rfl⟩ (fun s' => typeIs_int s' k t) noFill_tuple_mul F.fills_int_mul F.slot_int_rmul repeat_tuple F.slot_int_index.lookup
    (call_meets F.slot_int_rmul (typeIs_int s k t) F.entry_int_rmul (F.args_int_rmul_2 _ _) (int_rmul_tuple k t l is.toArray n dd sl) ⟨ho, rfl, ⟨_, ho, rfl⟩, B⟩)
end
end Ev

set_option Elab.async false
set_option linter.all false
set_option maxRecDepth 100000
set_option autoImplicit false
namespace Ev
open PySem PySem.W PySem.Calls PySem.SeqAt PyProof.Rows
section
variable {A : Around} {s : Shared}
theorem call_tuple_lt {prog : Program} {w : World} {E : Value → Shared → Prop} {Q : Value → Shared → Prop} {l b : Addr} {items items2 : Array Value} {e r : Nat → Bool} (hl : s.heap.IsTuple l items) (hb : s.heap.IsTuple b items2)
    (he : ∀ j (h1 : j < items.size) (h2 : j < items2.size), EqAt A.in1 s items[j] items2[j] (e j)) (hr : ∀ j (h1 : j < items.size) (h2 : j < items2.size), e j = false → RcLt A.in1 s items[j] items2[j] (r j))
    (h : Q (.bool (firstLt e r (decide (items.size < items2.size)) (List.range (min items.size items2.size)))) s) : wpAny (model prog w) A (call (.builtin "tuple.__lt__") [.ref l, .ref b]) Q E s := by
  obtain ⟨⟨cls, dd, data, sl⟩, ho, hc, n, hd⟩ := id hl
  obtain ⟨⟨cls2, dd2, data2, sl2⟩, ho2, hc2, n2, hd2⟩ := id hb
  simp only at hc hd hc2 hd2
  subst hc hd hc2 hd2
  exact call_meets PySem.F.slot_tuple_lt ⟨_, ho, rfl⟩ PySem.F.entry_tuple_lt (PySem.F.args_tuple_lt_2 _ _) (tuple_ltAt l b items items2 n n2 dd dd2 sl sl2 e r) ⟨ho, ho2, he, hr, h⟩
variable {prog : Program} {w : World} {E : Value → Shared → Prop}
theorem oneLt_tup {xs ys : List PyData} {a b : Value} {as bs : List Addr} {Q : Bool → Shared → Prop} (ra : Reads s.heap a (.tuple xs) as) (rb : Reads s.heap b (.tuple ys) bs) (h : alike (.tuple xs) (.tuple ys) = true)
    (hu : A.units + min (PyData.tuple xs).depth (PyData.tuple ys).depth < cLine) (hq : Q (dataLt (.tuple xs) (.tuple ys)) s) : wpAny (model prog w) A (oneLt' true a b) Q E s := by
  have hal : alikeAll xs ys = true := by simpa [alike] using h
  cases ra with
  | @tuple l o vs n _ as₁ h1 h2 h3 h4 =>
    cases rb with
    | @tuple l' o' vs' n' _ bs₁ k1 k2 k3 k4 =>
      have n1 : vs.size = xs.length := by simpa using ReadsAll.length _ _ _ h4
      have n2 : vs'.size = ys.length := by simpa using ReadsAll.length _ _ _ k4
      rw [dataLt_tuple, ← firstLt_toks xs ys hal, ← n1, ← n2] at hq
      rw [oneLt'_eq]
      simp only [if_true]
      refine wpAny_bind (wpAny_cRoomFor (room_here hu) ?_)
      refine wpAny_bind (wpAny_callSpecialIfBound?_slot (T := "tuple") ⟨_, h1, h2⟩ PySem.F.slot_tuple_lt (call_tuple_lt (e := pairEq xs ys) (r := fun j => dataLt (xs.getD j .none) (ys.getD j .none)) ⟨_, h1, h2, _, h3⟩ ⟨_, k1, k2, _, k3⟩ (fun j j1 j2 => ?_) (fun j j1 j2 hj => ?_) ?_))
      · have := eqAt_alikeAll xs ys A.in1 s vs.toList vs'.toList _ _ h4 k4 hal (room_in hu) j (by simpa using j1) (by simpa using j2)
        simpa using this
      · have := rcLt_alikeAll xs ys A.in1 s vs.toList vs'.toList _ _ h4 k4 hal (room_in hu) j (by simpa using j1) (by simpa using j2) hj
        simpa using this
      · exact wpAny_truthy_bool hq
theorem firsts_any {M : Model} : ∀ {vs : List Value} {ds : List PyData}, EachIs (fun v d => ∃ as, Reads s.heap v d as) vs ds → (∀ d ∈ ds, ∃ xs, d = .tuple xs) →
    ∃ os : List (Option Value), os.map (·.isSome) = ds.map ntup ∧ ∀ {E : Value → Shared → Prop} {Q : List (Option Value) → Shared → Prop}, Q os s → wpAny M A (vs.mapM firstOfTuple') Q E s
  | _, _, .nil, _ => ⟨[], rfl, fun h => by rw [List.mapM_nil]; exact wpAny_pure h⟩
  | _, _, .cons (b := d) ⟨as, r⟩ t, ht => by
    obtain ⟨os, h1, h2⟩ := firsts_any (M := M) t fun d hd => ht d (List.mem_cons_of_mem _ hd)
    obtain ⟨xs, rfl⟩ := ht d (List.mem_cons_self ..)
    cases r with
    | @tuple a o its n _ _ ho hc hd hr =>
      refine ⟨its[0]? :: os, ?_, fun h => ?_⟩
      · rw [List.map_cons, List.map_cons, h1]
        congr 1
        have e0 : its[0]? = its.toList[0]? := by rw [Array.getElem?_toList]
        rw [e0]
        cases q : its.toList with
        | nil =>
          rw [q] at hr
          cases hr
          rfl
        | cons f fr =>
          rw [q] at hr
          cases hr with
          | cons r1 r2 => rfl
      · rw [List.mapM_cons]
        refine wpAny_bind ?_
        rw [kas_first_eq]
        refine wpAny_bind (Looks.here (show Looks M s.heap (typeOf (.ref a)) o.cls from (Looks.ld ho).andThen .now) ?_)
        rw [hc, if_neg (by first | decide | simp)]
        refine wpAny_bind (listItems_at ho hd (wpAny_pure ?_))
        exact wpAny_bind (h2 (wpAny_pure h))
theorem kind_any {M : Model} {vs : List Value} {ds : List PyData} {Q : SortKind → Shared → Prop} (e : EachIs (fun v d => ∃ as, Reads s.heap v d as) vs ds) (ht : ∀ d ∈ ds, ∃ xs, d = .tuple xs) (h2 : 2 ≤ vs.length) (hno : ds.all ntup = false) {b : Bool} (hb : ds[0]?.any ntup = b)
    (h : Q (if b = true then general' else oneType') s) : wpAny M A (keyKind' vs.toArray) Q E s := by
  obtain ⟨os, o1, o2⟩ := firsts_any (M := M) (A := A) e ht
  have hlen : vs.length = ds.length := e.length
  have hol : os.length = ds.length := by
    have := congrArg List.length o1
    simpa using this
  rw [kat_kind_eq, List.mapM_toArray, map_eq_pure_bind]
  refine wpAny_bind (wpAny_bind (o2 (wpAny_pure ?_)))
  have hall : (os.toArray.all fun x => x.isSome) = false := by
    rw [← hno]
    simp only [List.all_toArray]
    have : (os.map (·.isSome)).all id = (ds.map ntup).all id := by rw [o1]
    simpa [List.all_map] using this
  rw [if_neg (by rw [hall]; decide)]
  have h0 : (os.toArray[0]?.bind id).isSome = b := by
    rw [← hb]
    have q : (os.map (·.isSome))[0]? = (ds.map ntup)[0]? := by rw [o1]
    rw [List.getElem?_map, List.getElem?_map] at q
    have q2 : os.toArray[0]? = os[0]? := by simp
    rw [q2]
    cases a : os[0]? with
    | none =>
      cases c : ds[0]? with
      | none => rfl
      | some d => rw [a, c] at q; cases q
    | some o =>
      cases c : ds[0]? with
      | none => rw [a, c] at q; cases q
      | some d =>
        rw [a, c] at q
        have q : o.isSome = ntup d := by simpa using q
        simpa using q
  cases b with
  | true =>
    rw [if_pos h0]
    exact wpAny_pure h
  | false =>
    rw [if_neg (by rw [h0]; decide)]
    rw [oneTypeOnly'_eq, List.mapM_toArray, map_eq_pure_bind]
    have hT : ∀ v ∈ vs, Looks M s.heap (typeOf v) (.type "tuple") := fun v hv => by
      obtain ⟨d, hd, as, r⟩ := e.left v hv
      obtain ⟨xs, rfl⟩ := ht d hd
      exact looks_reads r
    refine wpAny_bind (wpAny_bind (wpAny_bind (kas_mapM (r := Value.type "tuple") _ (fun v hv Q' hq => (hT v hv).here hq) (wpAny_pure ?_))))
    obtain ⟨v₁, v₂, rest, rfl⟩ : ∃ v₁ v₂ rest, vs = v₁ :: v₂ :: rest := by
      match vs, h2 with
      | [], h2 => simp at h2
      | [_], h2 => simp at h2
      | v₁ :: v₂ :: rest, _ => exact ⟨v₁, v₂, rest, rfl⟩
    have hall : ((List.map (fun _ => Value.type "tuple") (v₁ :: v₂ :: rest)).toArray.all fun x => x == Value.type "tuple") = true := by
      simp only [List.all_toArray, List.all_map, List.all_eq_true]
      intro _ _
      exact beq_self_eq_true _
    have h0 : (List.map (fun _ => Value.type "tuple") (v₁ :: v₂ :: rest)).toArray[0]? = some (Value.type "tuple") := by simp
    rw [h0]
    simp only [hall, if_true]
    exact wpAny_pure (wpAny_pure h)
/-- what can be sorted: tuples of any kind, or no tuples -/
def SortA (ds : List PyData) : Prop := (∀ d ∈ ds, ∃ xs, d = .tuple xs) ∨ ∀ d, d ∈ ds → d ≠ .none ∧ ∀ xs, d ≠ .tuple xs
theorem sortsAt_any {vs : List Value} {ds : List PyData} (e : EachIs (fun v d => ∃ as, Reads s.heap v d as) vs ds) (hal : AllAlike ds) (hk : SortA ds) (hu : ∀ d, d ∈ ds → A.units + d.depth < cLine) : SortsAt prog w A s (dataKind s.heap ds) vs := by
  rcases hk with ht | hn
  · cases hno : ds.all ntup with
    | true =>
      refine SortsAt.data e hal (.inl fun d hd => ?_) hu
      obtain ⟨xs, rfl⟩ := ht d hd
      have := List.all_eq_true.mp hno _ hd
      cases xs with
      | nil => cases this
      | cons x r => exact ⟨x, r, rfl⟩
    | false =>
      have room : ∀ {d d' : PyData}, d ∈ ds → A.units + min d.depth d'.depth < cLine := fun {d d'} hd => Nat.lt_of_le_of_lt (Nat.add_le_add_left (Nat.min_le_left _ _) _) (hu d hd)
      refine ⟨fun v hv => ?_, if ds[0]?.any ntup = true then general' else oneType', ?_, fun h2 E Q hq => kind_any e ht h2 hno rfl hq⟩
      · obtain ⟨d, hd, as, r⟩ := e.left v hv
        exact ⟨_, dataKind_some hal hd r⟩
      · intro E x y a b Q ha hb hq
        obtain ⟨d, as, hd, ra, rfl⟩ := dataKind_inv ha
        obtain ⟨d', as', hd', rb, rfl⟩ := dataKind_inv hb
        have hdd := hal d hd d' hd'
        obtain ⟨xs, rfl⟩ := ht d hd
        obtain ⟨ys, rfl⟩ := ht d' hd'
        have hq' : Q (dataLt (.tuple xs) (.tuple ys)) s := hq
        cases ds[0]?.any ntup with
        | true => exact oneLt_alike (f := false) (fun h => nomatch h) ra rb hdd (fun h => nomatch h) (room hd) hq'
        | false => exact oneLt_tup ra rb hdd (room hd) hq'
  · exact SortsAt.data e hal (.inr hn) hu
variable {β : Type} {vs : List Value} {bs : List β} {enc : β → PyData} {R : Value → β → Prop}
theorem sorted_any {l : Addr} {Q : Value → Shared → Prop} (hl : s.heap.IsList l vs.toArray) (e : EachIs R vs bs) (er : EachIs (fun v b => ∃ as, Reads s.heap v (enc b) as) vs bs) (hal : AllAlike (bs.map enc)) (hk : SortA (bs.map enc)) (hL : bs.length ≤ sizeLine)
    (hu : ∀ b, b ∈ bs → A.units + 2 + (enc b).depth < cLine) (h : ∀ out, out.length = bs.length → EachIs R out (bs.mergeSort (dataLe false enc)) → Q (.ref (s.heap.objs.size + 1)) { s with heap := sortedAll s.heap vs (List.toArray out) }) :
    wpAny (model prog w) A (call (.builtin "sorted") [.ref l]) Q E s := by
  have er' : EachIs (fun v b => ∃ as, Reads (sortingHeap (copyHeap s.heap vs) (s.heap.objs.size + 1) vs) v (enc b) as) vs bs := er.mono fun _ _ ⟨as, r⟩ => ⟨as, PyProof.Rows.Reads.keeps (fun _ _ => sorting_copy_old) r⟩
  exact sorted_vals hl (sortsAt_any (s := { s with heap := sortingHeap (copyHeap s.heap vs) (s.heap.objs.size + 1) vs }) (each_map (R := fun v d => ∃ as, Reads (sortingHeap (copyHeap s.heap vs) (s.heap.objs.size + 1) vs) v d as) enc er') hal hk (bound_map hu)) (by rw [e.length]; exact hL)
    (h _ (by rw [sortVals_length false rfl]; exact e.length) (sortVals_data false e er' hal))
theorem list_sort_any {a : Addr} {n : Nat} {Q : Value → Shared → Prop} (ho : s.heap.get? a = some (seqObj "list" vs.toArray n)) (e : EachIs R vs bs) (er : EachIs (fun v b => ∃ as, Reads s.heap v (enc b) as ∧ a ∉ as) vs bs) (hal : AllAlike (bs.map enc)) (hk : SortA (bs.map enc)) (hL : bs.length ≤ sizeLine)
    (hu : ∀ b, b ∈ bs → A.units + 1 + (enc b).depth < cLine) (h : ∀ out, out.length = bs.length → EachIs R out (bs.mergeSort (dataLe false enc)) → Q .none { s with heap := sortedHeap s.heap a vs (List.toArray out) }) :
    wpAny (model prog w) A (call (.builtin "list.sort") [.ref a]) Q E s := by
  have er' : EachIs (fun v b => ∃ as, Reads (sortingHeap s.heap a vs) v (enc b) as) vs bs := each_keepBut (h' := sortingHeap s.heap a vs) (fun _ _ hb q => sortingHeap_old hb q) (fun o q => by rw [ho] at q; rw [← Option.some.inj q]) hal er
  refine wpAny_call_entry slot_list_sort ⟨_, ho, rfl⟩ entry_list_sort (list_sort_vals (κ := dataKind (sortingHeap s.heap a vs) (bs.map enc)) ho (sortsAt_any (s := { s with heap := sortingHeap s.heap a vs }) (each_map (R := fun v d => ∃ as, Reads (sortingHeap s.heap a vs) v d as) enc er') hal hk (bound_map hu)) (by rw [e.length]; exact hL) ⟨.none, rfl, ?_⟩) (args_list_sort _)
  exact h _ (by rw [sortVals_length false rfl]; exact e.length) (sortVals_data false e er' hal)
end
end Ev

set_option Elab.async false
set_option linter.all false
set_option maxRecDepth 100000
set_option autoImplicit false
namespace Ev
open PySem PySem.Spec PyProof.Rows L2

abbrev Mu := List (List Addr)
abbrev Fz := Addr → Prop
def mainA (m : Mu) (n : Nat) : Option Addr := (m[n]?).bind (·.head?)

def keyD : Key → D
  | .inl i => .int i
  | .inr x => .str x

/-- what is fixed: where the defs stand, the written part, the script -/
structure Zt where
  fa : Nat → Addr
  K : PySem.W.Frag
  sa : Addr
  ns : List Int
  tb : List (Addr × Str)
  wd : World
  ca : Addr

mutual
/-- the key that a datum is -/
def nkOf : D → NestedKey
  | .none => .none
  | .bool b => .num (if b then 1 else 0)
  | .int i => .num i
  | .str x => .text x
  | .tuple xs => .tup (nksOf xs)
  | _ => .none
def nksOf : List D → List NestedKey
  | [] => []
  | x :: xs => nkOf x :: nksOf xs
end
/-- an entry of a dict's table -/
def entN (wd : World) (p : NestedKey × Addr × Value) : DictEntry := ⟨p.1.hash wd, .ref p.2.1, p.2.2⟩
abbrev PrN : List (NestedKey × Addr × V) → List (NestedKey × Addr × Value) → Prop := Paired fun p q => p.1 = q.1 ∧ p.2.1 = q.2.1 ∧ RelV p.2.2 q.2.2
/-- the dict at a, its keys tuples of any depth -/
def DN (wd : World) (a : Addr) (kvs : List (NestedKey × Addr × V)) : HO := .ext fun h => ∃ xs, PrN kvs xs ∧ kvs.length ≤ sizeLine ∧ (a == sysModules) = false ∧ ∃ (o : Obj) (es : Array DictEntry) (ep : Nat), h.get? a = some o ∧ o.ExactDict ∧ o.data = .dict es ep ∧ es.toList = xs.map (entN wd) ∧ (xs.map (·.1)).Nodup
/-- a tuple of the written part -/
def KTup (K : PySem.W.Frag) (a : Addr) (xs : List V) : Prop := ∃ (o : Obj) (its : Array Value) (n : Nat), K.lookup a = some o ∧ o.cls = .type "tuple" ∧ o.dict = none ∧ o.data = .seq its n ∧ its.size ≤ sizeLine ∧ Vals xs its.toList
/-- a tuple without attributes of its own: frozen, or written -/
def NT (z : Zt) (F : Fz) (H : Hp) (a : Addr) (vs : List V) : Prop := (F a ∧ ∃ o : Obj, H a = some (.frz o (.tup vs)) ∧ o.dict = none) ∨ KTup z.K a vs
theorem NT.sq {z : Zt} {F : Fz} {H : Hp} {a : Addr} {vs : List V} {K : PySem.W.Frag} (hK : K = z.K) (h : NT z F H a vs) : SqT K H a vs := by
  subst hK
  rcases h with ⟨_, o, h, _⟩ | ⟨o, its, n, h1, h2, _, h3, h4, h5⟩
  · exact .inl (.inr ⟨o, h⟩)
  · exact .inr ⟨o, its, n, h1, h2, h3, h4, h5⟩
theorem NT.new {z : Zt} {F : Fz} {H : Hp} {a : Addr} {o : Obj} {vs : List V} (hF : F a) (hd : o.dict = none) (h : H a = some (.frz o (.tup vs))) : NT z F H a vs := .inl ⟨hF, o, h, hd⟩
mutual
inductive Rep (z : Zt) (m : Mu) (F : Fz) (H : Hp) : V → D → Prop
  | non : Rep z m F H .non .none
  | bl (b : Bool) : Rep z m F H (.bl b) (.bool b)
  | int (i : Int) : Rep z m F H (.int i) (.int i)
  | str (x : Str) : Rep z m F H (.str x) (.str x)
  | lst {a : Addr} {vs : List V} {ds : List D} : F a → H a = some (.lst vs) → RepAll z m F H vs ds → Rep z m F H (.ref a) (.list ds)
  | tup {a : Addr} {vs : List V} {ds : List D} : NT z F H a vs → RepAll z m F H vs ds → Rep z m F H (.ref a) (.tuple ds)
  | dK {a : Addr} {od : Obj} {o : HO} {ds : List (D × D)} : F a → H a = some (.frz od o) → RepD z m F H a o ds → Rep z m F H (.ref a) (.dict ds)
  | fn (n : Nat) : Rep z m F H (.ref (z.fa n)) (fnD n)
  | scr : Rep z m F H (.ref z.sa) scrD
  | ob {n : Nat} {a : Addr} : mainA m n = some a → Rep z m F H (.ref a) (obD n)
inductive RepAll (z : Zt) (m : Mu) (F : Fz) (H : Hp) : List V → List D → Prop
  | nil : RepAll z m F H [] []
  | cons {v : V} {d : D} {vs : List V} {ds : List D} : Rep z m F H v d → RepAll z m F H vs ds → RepAll z m F H (v :: vs) (d :: ds)
inductive RepKV (z : Zt) (m : Mu) (F : Fz) (H : Hp) : List (Key × V) → List (D × D) → Prop
  | nil : RepKV z m F H [] []
  | cons {k : Key} {v : V} {d : D} {kvs : List (Key × V)} {ds : List (D × D)} : Rep z m F H v d → RepKV z m F H kvs ds → RepKV z m F H ((k, v) :: kvs) ((keyD k, d) :: ds)
inductive RepKN (z : Zt) (m : Mu) (F : Fz) (H : Hp) : List (NestedKey × Addr × V) → List (D × D) → Prop
  | nil : RepKN z m F H [] []
  | cons {a : Addr} {k d : D} {v : V} {kvs : List (NestedKey × Addr × V)} {ds : List (D × D)} : tkOk k = true → Rep z m F H (.ref a) k → Rep z m F H v d → RepKN z m F H kvs ds → RepKN z m F H ((nkOf k, a, v) :: kvs) ((k, d) :: ds)
/-- a dict, however it is told -/
inductive RepD (z : Zt) (m : Mu) (F : Fz) (H : Hp) : Addr → HO → List (D × D) → Prop
  | k {a : Addr} {ks : List (Key × V)} {ds : List (D × D)} : RepKV z m F H ks ds → RepD z m F H a (.dK ks) ds
  | n {a : Addr} {ks : List (NestedKey × Addr × V)} {ds : List (D × D)} : RepKN z m F H ks ds → ds ≠ [] → RepD z m F H a (DN z.wd a ks) ds
end
/-- what is kept between two moments -/
structure Fm (m : Mu) (F : Fz) (H : Hp) (m' : Mu) (F' : Fz) (H' : Hp) : Prop where
  keep : ∀ a o, H a = some o → a ∉ m.flatten → H' a = some o
  dom : ∀ a o, H a = some o → ∃ o', H' a = some o'
  new : ∀ a, a ∈ m'.flatten → a ∈ m.flatten ∨ H a = none
  main : ∀ n a, mainA m n = some a → mainA m' n = some a
  grow : ∀ a, F a → F' a
  fnew : ∀ a, F' a → F a ∨ H a = none
theorem Fm.refl (m : Mu) (F : Fz) (H : Hp) : Fm m F H m F H := ⟨fun _ _ h _ => h, fun _ o h => ⟨o, h⟩, fun _ h => .inl h, fun _ _ h => h, fun _ h => h, fun _ h => .inl h⟩
theorem Fm.unlaid {m m' : Mu} {F F' : Fz} {H H' : Hp} (f : Fm m F H m' F' H') {a : Addr} (h : H' a = none) : H a = none := by
  cases q : H a with
  | none => rfl
  | some o =>
    obtain ⟨o', e⟩ := f.dom a o q
    rw [e] at h; cases h
theorem Fm.trans {m m1 m2 : Mu} {F F1 F2 : Fz} {H H1 H2 : Hp} (f : Fm m F H m1 F1 H1) (g : Fm m1 F1 H1 m2 F2 H2) : Fm m F H m2 F2 H2 where
  keep := fun a o h hn => g.keep a o (f.keep a o h hn) fun hm => by
    rcases f.new a hm with z | z
    · exact hn z
    · rw [h] at z; cases z
  dom := fun a o h => by
    obtain ⟨o1, h1⟩ := f.dom a o h
    exact g.dom a o1 h1
  new := fun a h => by
    rcases g.new a h with z | z
    · exact f.new a z
    · exact .inr (f.unlaid z)
  main := fun n a h => g.main n a (f.main n a h)
  grow := fun a h => g.grow a (f.grow a h)
  fnew := fun a h => by
    rcases g.fnew a h with z | z
    · exact f.fnew a z
    · exact .inr (f.unlaid z)

theorem Rd.keep {H H' : Hp} {a : Addr} {u : HO} (h : Rd H a u) (k : ∀ o, H a = some o → H' a = some o) : Rd H' a u := by
  rcases h with h | ⟨o, h⟩
  · exact .inl (k _ h)
  · exact .inr ⟨o, k _ h⟩

theorem SqL.keep {K : PySem.W.Frag} {H H' : Hp} {a : Addr} {xs : List V} (h : SqL K H a xs) (k : ∀ o, H a = some o → H' a = some o) : SqL K H' a xs := by
  rcases h with h | h
  · exact .inl (Rd.keep h k)
  · exact .inr h
/-- the frozen part is kept -/
def Kp (F : Fz) (H H' : Hp) : Prop := ∀ (a : Addr) (o : HO), F a → H a = some o → H' a = some o
theorem Kp.of {F : Fz} {H H' : Hp} (hk : ∀ a o, F a → H a = some o → H' a = some o) : Kp F H H' := hk
theorem Kp.refl (F : Fz) (H : Hp) : Kp F H H := fun _ _ _ h => h
theorem Kp.trans {F F' : Fz} {H H1 H2 : Hp} (f : Kp F H H1) (g : Kp F' H1 H2) (hg : ∀ a, F a → F' a) : Kp F H H2 := fun a o h e => g a o (hg a h) (f a o h e)

theorem NT.keep {z : Zt} {F F' : Fz} {H H' : Hp} {a : Addr} {vs : List V} (h : NT z F H a vs) (hk : Kp F H H') (hg : ∀ a, F a → F' a) : NT z F' H' a vs := by
  rcases h with ⟨h1, o, h2, h3⟩ | h
  · exact .inl ⟨hg a h1, o, hk a _ h1 h2, h3⟩
  · exact .inr h
section
variable {z : Zt} {m m' : Mu} {F F' : Fz} {H H' : Hp}
mutual
theorem Rep.mono (hk : Kp F H H') (hg : ∀ a, F a → F' a) (hm : ∀ n a, mainA m n = some a → mainA m' n = some a) : ∀ {v : V} {d : D}, Rep z m F H v d → Rep z m' F' H' v d
  | _, _, .non => .non
  | _, _, .bl b => .bl b
  | _, _, .int i => .int i
  | _, _, .str x => .str x
  | _, _, .lst h1 h2 h3 => .lst (hg _ h1) (hk _ _ h1 h2) (RepAll.mono hk hg hm h3)
  | _, _, .tup h1 h3 => .tup (h1.keep hk hg) (RepAll.mono hk hg hm h3)
  | _, _, .dK h1 h2 h3 => .dK (hg _ h1) (hk _ _ h1 h2) (RepD.mono hk hg hm h3)
  | _, _, .fn n => .fn n
  | _, _, .scr => .scr
  | _, _, .ob h => .ob (hm _ _ h)
theorem RepAll.mono (hk : Kp F H H') (hg : ∀ a, F a → F' a) (hm : ∀ n a, mainA m n = some a → mainA m' n = some a) : ∀ {v : List V} {d : List D}, RepAll z m F H v d → RepAll z m' F' H' v d
  | _, _, .nil => .nil
  | _, _, .cons h1 h2 => .cons (Rep.mono hk hg hm h1) (RepAll.mono hk hg hm h2)
theorem RepKV.mono (hk : Kp F H H') (hg : ∀ a, F a → F' a) (hm : ∀ n a, mainA m n = some a → mainA m' n = some a) : ∀ {v : List (Key × V)} {d : List (D × D)}, RepKV z m F H v d → RepKV z m' F' H' v d
  | _, _, .nil => .nil
  | _, _, .cons h1 h2 => .cons (Rep.mono hk hg hm h1) (RepKV.mono hk hg hm h2)
theorem RepKN.mono (hk : Kp F H H') (hg : ∀ a, F a → F' a) (hm : ∀ n a, mainA m n = some a → mainA m' n = some a) : ∀ {v : List (NestedKey × Addr × V)} {d : List (D × D)}, RepKN z m F H v d → RepKN z m' F' H' v d
  | _, _, .nil => .nil
  | _, _, .cons h0 h1 h2 h3 => .cons h0 (Rep.mono hk hg hm h1) (Rep.mono hk hg hm h2) (RepKN.mono hk hg hm h3)
theorem RepD.mono (hk : Kp F H H') (hg : ∀ a, F a → F' a) (hm : ∀ n a, mainA m n = some a → mainA m' n = some a) : ∀ {a : Addr} {o : HO} {d : List (D × D)}, RepD z m F H a o d → RepD z m' F' H' a o d
  | _, _, _, .k h => .k (RepKV.mono hk hg hm h)
  | _, _, _, .n h hn => .n (RepKN.mono hk hg hm h) hn
end
end

/-- a table of code objects: each that it tells is frozen and bears the name q -/
def TabF (F : Fz) (H : Hp) (P : Addr) (q : Str) : Prop := ∃ ps : Array Value, H P = some (.tbl ps) ∧ TriplesOk ps.toList ∧ ∀ (pos : Pos) (cv : Value), codeAmong pos ps.toList = some cv → ∃ c, cv = .ref c ∧ F c ∧ H c = some (LamX.CodeO c q)
/-- the fields of an instance, the lists that it owns -/
inductive FsR (z : Zt) (m : Mu) (F : Fz) (H : Hp) : List (Str × SV) → List (Str × V) → List Addr → Prop
  | nil : FsR z m F H [] [] []
  | imm {f : Str} {v : V} {d : D} {fs : List (Str × SV)} {vs : List (Str × V)} {ls : List Addr} : Rep z m F H v d → FsR z m F H fs vs ls → FsR z m F H ((f, .i d) :: fs) ((f, v) :: vs) ls
  | lst {f : Str} {a : Addr} {us : List V} {xs : List D} {fs : List (Str × SV)} {vs : List (Str × V)} {ls : List Addr} : H a = some (.lst us) → RepAll z m F H us xs → FsR z m F H fs vs ls → FsR z m F H ((f, .l xs) :: fs) ((f, .ref a) :: vs) (a :: ls)
/-- a mutable object as it lies -/
def ObjR (z : Zt) (m : Mu) (F : Fz) (H : Hp) (as : List Addr) : MO → Prop
  | .non => as = []
  | .tab q => ∃ t, as = [t] ∧ TabF F H t q
  | .town c rs => ∃ t r, as = [t, r] ∧ H t = some (.dK [(.inr "count", .int c), (.inr "rests", .ref r)]) ∧ H r = some (.dK (rs.map fun p => (.inl p.1, .int p.2)))
  | .inst _ fs => ∃ a dx vs ls, as = a :: ls ∧ H a = some (.ins z.ca dx vs) ∧ FsR z m F H fs vs ls

/-- a list of the written part -/
def KSeq (K : PySem.W.Frag) (a : Addr) (xs : List V) : Prop := ∃ (o : Obj) (its : Array Value) (n : Nat), K.lookup a = some o ∧ o.cls = .type "list" ∧ o.dict = none ∧ o.data = .seq its n ∧ its.size ≤ sizeLine ∧ Vals xs its.toList
structure Wf (z : Zt) (m : Mu) (F : Fz) (w : W) (H : Hp) : Prop where
  len : m.length = w.length
  obj : ∀ (n : Nat) (as : List Addr) (mo : MO), m[n]? = some as → w[n]? = some mo → ObjR z m F H as mo
  nd : m.flatten.Nodup
  nF : ∀ a, a ∈ m.flatten → ¬ F a
  dom : ∀ a, F a → ∃ o, H a = some o
  mdom : ∀ a, a ∈ m.flatten → ∃ o, H a = some o
  scr : (F z.sa ∧ Rd H z.sa (.lst (z.ns.map V.int))) ∨ KSeq z.K z.sa (z.ns.map V.int)
  tab : ∀ (i : Nat) (p : Addr × Str), z.tb[i]? = some p → m[i + 1]? = some [p.1] ∧ w[i + 1]? = some (.tab p.2)

/-- the frozen part stays -/
theorem Wf.keeps {z : Zt} {m m' : Mu} {F F' : Fz} {w : W} {H H' : Hp} (x : Wf z m F w H) (f : Fm m F H m' F' H') : Kp F H H' :=
  Kp.of fun a o hF h => f.keep a o h fun hm => x.nF a hm hF
theorem Wf.rep {z : Zt} {m m' : Mu} {F F' : Fz} {w : W} {H H' : Hp} (x : Wf z m F w H) (f : Fm m F H m' F' H') {v : V} {d : D} (r : Rep z m F H v d) : Rep z m' F' H' v d := r.mono (x.keeps f) f.grow f.main
theorem Wf.repAll {z : Zt} {m m' : Mu} {F F' : Fz} {w : W} {H H' : Hp} (x : Wf z m F w H) (f : Fm m F H m' F' H') {v : List V} {d : List D} (r : RepAll z m F H v d) : RepAll z m' F' H' v d := r.mono (x.keeps f) f.grow f.main
theorem Wf.repD {z : Zt} {m m' : Mu} {F F' : Fz} {w : W} {H H' : Hp} (x : Wf z m F w H) (f : Fm m F H m' F' H') {a : Addr} {v : HO} {d : List (D × D)} (r : RepD z m F H a v d) : RepD z m' F' H' a v d := r.mono (x.keeps f) f.grow f.main

def isMut (s : Sl) (i : Nat) : Prop := (∃ xs, s[i]? = some (some (.l xs))) ∨ (∃ kvs, s[i]? = some (some (.m kvs)))
/-- the slots as they lie; H0: what stood at the entry -/
structure SlR (z : Zt) (m : Mu) (F : Fz) (H0 : Hp) (s : Sl) (σ : L2.St) (H : Hp) : Prop where
  len : s.length = σ.length
  imm : ∀ (i : Nat) (d : D), s[i]? = some (some (.i d)) → ∃ v, σ[i]? = some (some v) ∧ Rep z m F H v d
  lst : ∀ (i : Nat) (xs : List D), s[i]? = some (some (.l xs)) → ∃ a vs, σ[i]? = some (some (.ref a)) ∧ H a = some (.lst vs) ∧ RepAll z m F H vs xs
  dct : ∀ (i : Nat) (kvs : List (D × D)), s[i]? = some (some (.m kvs)) → ∃ a o, σ[i]? = some (some (.ref a)) ∧ H a = some o ∧ RepD z m F H a o kvs
  free : ∀ (i : Nat) (a : Addr), isMut s i → σ[i]? = some (some (.ref a)) → ¬ F a ∧ a ∉ m.flatten ∧ H0 a = none
  inj : ∀ (i j : Nat) (a : Addr), isMut s i → isMut s j → σ[i]? = some (some (.ref a)) → σ[j]? = some (some (.ref a)) → i = j

theorem SlR.there {z : Zt} {m : Mu} {F : Fz} {H0 : Hp} {s : Sl} {σ : L2.St} {H : Hp} (x : SlR z m F H0 s σ H) {i : Nat} {a : Addr} (hm : isMut s i) (ha : σ[i]? = some (some (.ref a))) : ∃ o, H a = some o := by
  rcases hm with ⟨xs, e⟩ | ⟨kvs, e⟩
  · obtain ⟨a', vs, e1, e2, _⟩ := x.lst i xs e
    rw [ha] at e1; cases e1
    exact ⟨_, e2⟩
  · obtain ⟨a', vs, e1, e2, _⟩ := x.dct i kvs e
    rw [ha] at e1; cases e1
    exact ⟨_, e2⟩

theorem SlR.fm {z : Zt} {m m' : Mu} {F F' : Fz} {w : W} {H0 H H' : Hp} {s : Sl} {σ : L2.St} (x : SlR z m F H0 s σ H) (y : Wf z m F w H) (f : Fm m F H m' F' H') : SlR z m' F' H0 s σ H' where
  len := x.len
  imm := fun i d e => by
    obtain ⟨v, e1, r⟩ := x.imm i d e
    exact ⟨v, e1, y.rep f r⟩
  lst := fun i xs e => by
    obtain ⟨a, vs, e1, e2, r⟩ := x.lst i xs e
    exact ⟨a, vs, e1, f.keep a _ e2 (x.free i a (.inl ⟨xs, e⟩) e1).2.1, y.repAll f r⟩
  dct := fun i xs e => by
    obtain ⟨a, vs, e1, e2, r⟩ := x.dct i xs e
    exact ⟨a, vs, e1, f.keep a _ e2 (x.free i a (.inr ⟨xs, e⟩) e1).2.1, y.repD f r⟩
  free := fun i a hm ha => by
    obtain ⟨h1, h2, h3⟩ := x.free i a hm ha
    obtain ⟨o, ho⟩ := x.there hm ha
    refine ⟨fun hF => ?_, fun hM => ?_, h3⟩
    · rcases f.fnew a hF with q | q
      · exact h1 q
      · rw [ho] at q; cases q
    · rcases f.new a hM with q | q
      · exact h2 q
      · rw [ho] at q; cases q
  inj := x.inj

section
variable {z : Zt} {m : Mu} {F : Fz} {w : W} {H : Hp}
/-- a new object is laid, not frozen -/
theorem Fm.laid {a : Addr} {o : HO} (hn : H a = none) : Fm m F H m F (upd H a o) :=
  ⟨fun b u h _ => by rw [upd_ne (ne_of_none h hn)]; exact h, fun b u h => ⟨u, by rw [upd_ne (ne_of_none h hn)]; exact h⟩, fun _ h => .inl h, fun _ _ h => h, fun _ h => h, fun _ h => .inl h⟩
theorem TabF.fm {F' : Fz} {H' : Hp} {t : Addr} {q : Str} (x : TabF F H t q) (hk : ∀ o, H t = some o → H' t = some o) (hF : ∀ a, F a → F' a) (hg : ∀ a o, F a → H a = some o → H' a = some o) : TabF F' H' t q := by
  obtain ⟨ps, h1, h2, h3⟩ := x
  refine ⟨ps, hk _ h1, h2, fun pos cv hc => ?_⟩
  obtain ⟨c, e, f, h⟩ := h3 pos cv hc
  exact ⟨c, e, hF c f, hg c _ f h⟩
theorem FsR.fm {m' : Mu} {F' : Fz} {H' : Hp} (hF : ∀ a, F a → F' a) (hg : ∀ a o, F a → H a = some o → H' a = some o) (hm : ∀ n a, mainA m n = some a → mainA m' n = some a) :
    ∀ {fs : List (Str × SV)} {vs : List (Str × V)} {ls : List Addr}, FsR z m F H fs vs ls → (∀ a o, a ∈ ls → H a = some o → H' a = some o) → FsR z m' F' H' fs vs ls
  | _, _, _, .nil, _ => .nil
  | _, _, _, .imm r t, hk => .imm (r.mono hg hF hm) (t.fm hF hg hm hk)
  | _, _, _, .lst h r t, hk => .lst (hk _ _ (by simp) h) (r.mono hg hF hm) (t.fm hF hg hm fun a o ha => hk a o (List.mem_cons_of_mem _ ha))
theorem ObjR.fm {m' : Mu} {F' : Fz} {H' : Hp} {as : List Addr} {mo : MO} (x : ObjR z m F H as mo) (hk : ∀ a o, a ∈ as → H a = some o → H' a = some o) (hF : ∀ a, F a → F' a) (hg : ∀ a o, F a → H a = some o → H' a = some o) (hm : ∀ n a, mainA m n = some a → mainA m' n = some a := by exact fun _ _ h => h) : ObjR z m' F' H' as mo := by
  cases mo with
  | non => exact x
  | tab q =>
    obtain ⟨t, rfl, h⟩ := x
    exact ⟨t, rfl, h.fm (fun o e => hk t o (by simp) e) hF hg⟩
  | town c rs =>
    obtain ⟨t, r, rfl, h1, h2⟩ := x
    exact ⟨t, r, rfl, hk t _ (by simp) h1, hk r _ (by simp) h2⟩
  | inst c fs =>
    obtain ⟨a, dx, vs, ls, rfl, h1, h2⟩ := x
    exact ⟨a, dx, vs, ls, rfl, hk a _ (by simp) h1, h2.fm hF hg hm fun b o hb => hk b o (List.mem_cons_of_mem _ hb)⟩
/-- all objects as before, the frozen part perhaps greater -/
theorem Wf.more {F' : Fz} {H' : Hp} (x : Wf z m F w H) (hg : ∀ a, F a → F' a) (hk : ∀ a o, H a = some o → H' a = some o) (hF : ∀ a, F' a → (F a ∨ H a = none ∨ a ∉ m.flatten) ∧ ∃ o, H' a = some o) : Wf z m F' w H' where
  len := x.len
  obj := fun n as mo h1 h2 => (x.obj n as mo h1 h2).fm (fun a o _ h => hk a o h) hg fun a o _ h => hk a o h
  nd := x.nd
  nF := fun a hm hF' => by
    rcases (hF a hF').1 with q | q | q
    · exact x.nF a hm q
    · obtain ⟨o, ho⟩ := x.mdom a hm
      rw [ho] at q; cases q
    · exact q hm
  dom := fun a h => (hF a h).2
  mdom := fun a h => by
    obtain ⟨o, ho⟩ := x.mdom a h
    exact ⟨o, hk a o ho⟩
  scr := x.scr.imp (fun ⟨h1, h2⟩ => ⟨hg _ h1, Rd.keep h2 fun o h => hk _ o h⟩) id
  tab := x.tab
theorem Wf.laid {a : Addr} {o : HO} (x : Wf z m F w H) (hn : H a = none) : Wf z m F w (upd H a o) :=
  x.more (fun _ h => h) (fun b u h => by rw [upd_ne (ne_of_none h hn)]; exact h) fun b hF => ⟨.inl hF, by
    obtain ⟨u, hu⟩ := x.dom b hF
    exact ⟨u, by rw [upd_ne (ne_of_none hu hn)]; exact hu⟩⟩
theorem Wf.sq (x : Wf z m F w H) : SqL z.K H z.sa (z.ns.map V.int) := by
  rcases x.scr with ⟨_, h⟩ | h
  · exact .inl h
  · exact .inr h
/-- an object that is neither frozen nor of the store is written -/
theorem Wf.updA {a : Addr} {o : HO} (x : Wf z m F w H) (hF : ¬ F a) (hm : a ∉ m.flatten) : Wf z m F w (L2.upd H a o) where
  len := x.len
  obj := fun n as mo h1 h2 => (x.obj n as mo h1 h2).fm (fun b u hb h => by
    have : b ≠ a := fun e => hm (e ▸ List.mem_flatten.mpr ⟨as, List.mem_of_getElem? h1, hb⟩)
    rw [upd_ne this]; exact h) (fun _ h => h) fun b u hb h => by
    have : b ≠ a := fun e => hF (e ▸ hb)
    rw [upd_ne this]; exact h
  nd := x.nd
  nF := x.nF
  dom := fun b h => by
    have : b ≠ a := fun e => hF (e ▸ h)
    rw [upd_ne this]; exact x.dom b h
  mdom := fun b h => by
    have : b ≠ a := fun e => hm (e ▸ h)
    rw [upd_ne this]; exact x.mdom b h
  scr := x.scr.imp (fun ⟨h1, h2⟩ => ⟨h1, Rd.keep h2 fun u h => by
    have : z.sa ≠ a := fun e => hF (e ▸ h1)
    rw [upd_ne this]; exact h⟩) id
  tab := x.tab
theorem Kp.updA {a : Addr} {o : HO} (hF : ¬ F a) : Kp F H (L2.upd H a o) := Kp.of fun b u h e => by
  have : b ≠ a := fun q => hF (q ▸ h)
  rw [upd_ne this]; exact e
/-- what was new at the start may be written -/
theorem Fm.updNew {m' : Mu} {F' : Fz} {H' : Hp} {a : Addr} {o : HO} (f : Fm m F H m' F' H') (h : H a = none) : Fm m F H m' F' (L2.upd H' a o) :=
  ⟨fun b u e hn => by rw [upd_ne (ne_of_none e h)]; exact f.keep b u e hn, fun b u e => by
    obtain ⟨u', e'⟩ := f.dom b u e
    exact ⟨u', by rw [upd_ne (ne_of_none e h)]; exact e'⟩, f.new, f.main, f.grow, f.fnew⟩
/-- one more address is frozen -/
def frzA (F : Fz) (a : Addr) : Fz := fun b => F b ∨ b = a
/-- a new object is laid, and frozen -/
theorem Fm.laidF {a : Addr} {o : HO} (hn : H a = none) : Fm m F H m (frzA F a) (upd H a o) :=
  ⟨fun b u h _ => by rw [upd_ne (ne_of_none h hn)]; exact h, fun b u h => ⟨u, by rw [upd_ne (ne_of_none h hn)]; exact h⟩, fun _ h => .inl h, fun _ _ h => h, fun _ h => .inl h, fun b h => by
    rcases h with h | h
    · exact .inl h
    · exact .inr (h ▸ hn)⟩
theorem Wf.laidF {a : Addr} {o : HO} (x : Wf z m F w H) (hn : H a = none) : Wf z m (frzA F a) w (upd H a o) :=
  x.more (fun _ h => .inl h) (fun b u h => by rw [upd_ne (ne_of_none h hn)]; exact h) fun b hF => by
    rcases hF with hF | hF
    · obtain ⟨u, hu⟩ := x.dom b hF
      exact ⟨.inl hF, u, by rw [upd_ne (ne_of_none hu hn)]; exact hu⟩
    · subst hF
      exact ⟨.inr (.inl hn), o, upd_same⟩
/-- an object that stands is frozen -/
theorem Fm.frz0 {a : Addr} {m0 : Mu} {F0 : Fz} {H0 : Hp} (f : Fm m0 F0 H0 m F H) (h0 : H0 a = none) : Fm m0 F0 H0 m (frzA F a) H :=
  ⟨f.keep, f.dom, f.new, f.main, fun b h => .inl (f.grow b h), fun b h => by
    rcases h with h | h
    · exact f.fnew b h
    · exact .inr (h ▸ h0)⟩
theorem Wf.frz {a : Addr} {o : HO} (x : Wf z m F w H) (ha : H a = some o) (hm : a ∉ m.flatten) : Wf z m (frzA F a) w H :=
  x.more (fun _ h => .inl h) (fun _ _ h => h) fun b hF => by
    rcases hF with hF | hF
    · exact ⟨.inl hF, x.dom b hF⟩
    · subst hF
      exact ⟨.inr (.inr hm), o, ha⟩
end

/-- what statements keep -/
structure Fk (m : Mu) (F : Fz) (H : Hp) (m' : Mu) (F' : Fz) (H' : Hp) : Prop where
  kp : Kp F H H'
  grow : ∀ a, F a → F' a
  main : ∀ n a, mainA m n = some a → mainA m' n = some a
theorem Fk.refl (m : Mu) (F : Fz) (H : Hp) : Fk m F H m F H := ⟨Kp.refl _ _, fun _ h => h, fun _ _ h => h⟩
theorem Fk.trans {m m1 m2 : Mu} {F F1 F2 : Fz} {H H1 H2 : Hp} (f : Fk m F H m1 F1 H1) (g : Fk m1 F1 H1 m2 F2 H2) : Fk m F H m2 F2 H2 :=
  ⟨f.kp.trans g.kp f.grow, fun a h => g.grow a (f.grow a h), fun n a h => g.main n a (f.main n a h)⟩
theorem Wf.fk {z : Zt} {m m' : Mu} {F F' : Fz} {w : W} {H H' : Hp} (x : Wf z m F w H) (f : Fm m F H m' F' H') : Fk m F H m' F' H' := ⟨x.keeps f, f.grow, f.main⟩
theorem Fk.rep {z : Zt} {m m' : Mu} {F F' : Fz} {H H' : Hp} (f : Fk m F H m' F' H') {v : V} {d : D} (r : Rep z m F H v d) : Rep z m' F' H' v d := r.mono f.kp f.grow f.main
theorem Fk.repAll {z : Zt} {m m' : Mu} {F F' : Fz} {H H' : Hp} (f : Fk m F H m' F' H') {v : List V} {d : List D} (r : RepAll z m F H v d) : RepAll z m' F' H' v d := r.mono f.kp f.grow f.main
section
variable {z : Zt} {m : Mu} {F : Fz} {H : Hp} {K : PySem.W.Frag}
section
variable (hK : K = z.K)
include hK
mutual
/-- data without dicts, for the library's rules -/
theorem Rep.dp : ∀ {v : V} {d : D}, Rep z m F H v d → d.canLay0 = true → Dp K H v d
  | _, _, .non, _ => .non
  | _, _, .bl b, _ => .bl b
  | _, _, .int i, _ => .int i
  | _, _, .str x, _ => .str x
  | _, _, .lst _ h2 h3, h => .lst (.inl (.inl h2)) (RepAll.dp h3 (by simpa [PyData.canLay0] using h))
  | _, _, .tup h2 h3, h => .tup (h2.sq hK) (RepAll.dp h3 (by simpa [PyData.canLay0] using h))
  | _, _, .dK _ _ _, h => by simp [PyData.canLay0] at h
  | _, _, .fn n, h => by simp [fnD, PyData.canLay0] at h
  | _, _, .scr, h => by simp [scrD, PyData.canLay0] at h
  | _, _, .ob _, h => by simp [obD, PyData.canLay0] at h
theorem RepAll.dp : ∀ {v : List V} {d : List D}, RepAll z m F H v d → PyData.canLayAll0 d = true → DpAll K H v d
  | _, _, .nil, _ => .nil
  | _, _, .cons h1 h2, h => by
    have h' := (Bool.and_eq_true_iff.mp (by rw [PyData.canLayAll0] at h; exact h))
    exact .cons (Rep.dp h1 h'.1) (RepAll.dp h2 h'.2)
end
end
theorem RepAll.length : ∀ {vs : List V} {ds : List D}, RepAll z m F H vs ds → vs.length = ds.length
  | _, _, .nil => rfl
  | _, _, .cons _ h => by rw [List.length_cons, List.length_cons, RepAll.length h]
theorem RepAll.get : ∀ {vs : List V} {ds : List D} {i : Nat} {d : D}, RepAll z m F H vs ds → ds[i]? = some d → ∃ v, vs[i]? = some v ∧ Rep z m F H v d
  | _, _, _, _, .nil, e => by simp at e
  | _, _, 0, _, .cons h _, e => by
    simp at e; subst e
    exact ⟨_, rfl, h⟩
  | _, _, i + 1, d, .cons _ t, e => by
    obtain ⟨v, h1, h2⟩ := RepAll.get (i := i) (d := d) t (by simpa using e)
    exact ⟨v, by simpa using h1, h2⟩
theorem RepAll.append : ∀ {vs us : List V} {ds es : List D}, RepAll z m F H vs ds → RepAll z m F H us es → RepAll z m F H (vs ++ us) (ds ++ es)
  | _, _, _, _, .nil, h => h
  | _, _, _, _, .cons h t, h' => .cons h (RepAll.append t h')
theorem RepAll.take : ∀ {vs : List V} {ds : List D} (n : Nat), RepAll z m F H vs ds → RepAll z m F H (vs.take n) (ds.take n)
  | _, _, 0, _ => .nil
  | _, _, _ + 1, .nil => .nil
  | _, _, n + 1, .cons h t => .cons h (RepAll.take n t)
theorem RepAll.drop : ∀ {vs : List V} {ds : List D} (n : Nat), RepAll z m F H vs ds → RepAll z m F H (vs.drop n) (ds.drop n)
  | _, _, 0, h => h
  | _, _, _ + 1, .nil => .nil
  | _, _, n + 1, .cons _ t => RepAll.drop n t
theorem RepAll.rep {vs : List V} {ds : List D} (h : RepAll z m F H vs ds) : ∀ k : Nat, RepAll z m F H (List.replicate k vs).flatten (List.replicate k ds).flatten
  | 0 => .nil
  | k + 1 => by
    rw [List.replicate_succ, List.replicate_succ, List.flatten_cons, List.flatten_cons]
    exact h.append (RepAll.rep h k)
end
end Ev

set_option Elab.async false
set_option linter.all false
set_option maxRecDepth 100000
set_option autoImplicit false
namespace Ev
open PySem PySem.Spec PyProof.Rows L2

/-- what is fixed in a body: the addresses, the classes of the exceptions, the wish about exceptions, the heap at the entry -/
structure Bx where
  z : Zt
  cl : Nat → Value
  E : XK
  H0 : Hp
  m0 : Mu
  F0 : Fz
/-- the written part is the same -/
class KEq (X : Cx) (z : Zt) : Prop where
  eq : X.K = z.K
/-- the heap as it is told, and its written part -/
structure HokK (P : Program) (w : World) (z : Zt) (H : Hp) (h : Heap) : Prop where
  hok : HOk P w H h
  kin : z.K.In h
/-- the tuple's object -/
theorem NT.at {P : Program} {w : World} {z : Zt} {F : Fz} {H : Hp} {h : Heap} {a : Addr} {vs : List V} (ok : HokK P w z H h) (x : NT z F H a vs) : ∃ (o : Obj) (its : List Value) (n : Nat), h.get? a = some o ∧ o.cls = .type "tuple" ∧ o.dict = none ∧ o.data = .seq its.toArray n ∧ Vals vs its ∧ vs.length ≤ sizeLine := by
  rcases x with ⟨_, ob, h2, hd⟩ | ⟨o, its, n, e1, e2, hd, e3, hz, rv⟩
  · obtain ⟨e0, hz, its, rv, o, e1, e2, n, e3⟩ := (show ObjOk P w H h a (.frz ob (.tup _)) from ok.hok a _ h2)
    rw [e0] at e1
    cases e1
    exact ⟨ob, its, n, e0, e2, hd, e3, rv, hz⟩
  · refine ⟨o, its.toList, n, ok.kin a o e1, e2, hd, by simpa using e3, rv, ?_⟩
    have := rv.length
    simp only [Array.length_toList] at this
    omega
theorem hokK {X : Cx} {z : Zt} [KEq X z] {pins : List (Addr × Obj)} {σ : L2.St} {H : Hp} {s : Shared} (I : Inv X pins σ H s) : HokK X.prog X.w z H s.heap := ⟨I.hok, (KEq.eq (X := X) (z := z)) ▸ I.kIn⟩

def Post {α β : Type} (b : Bx) (m : Mu) (F : Fz) (H : Hp) (r : R α) (Rl : Mu → Fz → Hp → β → α → Prop) (Q : β → Hp → Prop) : Prop :=
  match r with
  | .ok d w' => ∀ m' F' H' v, Fm m F H m' F' H' → Wf b.z m' F' w' H' → Rl m' F' H' v d → Q v H'
  | .exc c w' => ∀ m' F' H', Fm m F H m' F' H' → Wf b.z m' F' w' H' → b.E (b.cl c) none H'
  | .bad => False

section
variable {α β γ δ : Type} {b : Bx} {m m1 : Mu} {F F1 : Fz} {H H1 : Hp} {r : R α} {Rl : Mu → Fz → Hp → β → α → Prop} {Q Q' : β → Hp → Prop} {w : W}
theorem Post.after (h : Post b m F H r Rl Q) (f : Fm m F H m1 F1 H1) : Post b m1 F1 H1 r Rl Q := by
  cases r with
  | ok d w' => exact fun m' F' H' v g => h m' F' H' v (f.trans g)
  | exc c w' => exact fun m' F' H' g => h m' F' H' (f.trans g)
  | bad => exact h
theorem Post.imp (h : Post b m F H r Rl Q) (hq : ∀ v H, Q v H → Q' v H) : Post b m F H r Rl Q' := by
  cases r with
  | ok d w' => exact fun m' F' H' v g wf rl => hq _ _ (h m' F' H' v g wf rl)
  | exc c w' => exact h
  | bad => exact h
theorem Post.bind {x : M α} {k : α → M γ} {Rk : Mu → Fz → Hp → δ → γ → Prop} {Qk : δ → Hp → Prop} (h : Post b m F H (bnd x k w) Rk Qk) :
    Post b m F H (x w) Rl (fun v H1 => ∃ m1 F1 d w1, Fm m F H m1 F1 H1 ∧ Wf b.z m1 F1 w1 H1 ∧ Rl m1 F1 H1 v d ∧ Post b m1 F1 H1 (k d w1) Rk Qk) := by
  unfold bnd at h
  cases e : x w with
  | ok d w' =>
    rw [e] at h
    exact fun m' F' H' v g wf rl => ⟨m', F', d, w', g, wf, rl, Post.after h g⟩
  | exc c w' =>
    rw [e] at h
    exact h
  | bad =>
    rw [e] at h
    exact h
/-- the pure part -/
theorem Post.lift {o : Option α} {k : α → M γ} {Rk : Mu → Fz → Hp → δ → γ → Prop} {Qk : δ → Hp → Prop} (h : Post b m F H (bnd (lift o) k w) Rk Qk) : ∃ a, o = some a ∧ Post b m F H (k a w) Rk Qk := by
  cases o with
  | none => exact h.elim
  | some a => exact ⟨a, rfl, h⟩
theorem Post.lift1 {o : Option α} (h : Post b m F H (Ev.lift o w) Rl Q) : ∃ a, o = some a ∧ Post b m F H (.ok a w) Rl Q := by
  cases o with
  | none => exact h.elim
  | some a => exact ⟨a, rfl, h⟩
end

/-- what is read: the list or dict itself may be owned by a slot -/
def RepR (z : Zt) (m : Mu) (F : Fz) (H : Hp) (v : V) (d : D) : Prop := Rep z m F H v d ∨
  (∃ a vs ds, v = .ref a ∧ d = .list ds ∧ H a = some (.lst vs) ∧ RepAll z m F H vs ds ∧ a ∉ m.flatten) ∨
  (∃ a o kvs, v = .ref a ∧ d = .dict kvs ∧ H a = some o ∧ RepD z m F H a o kvs ∧ a ∉ m.flatten)
section
variable {z : Zt} {m m' : Mu} {F F' : Fz} {H H' : Hp} {w : W} {v : V} {d : D}
theorem Fm.out (f : Fm m F H m' F' H') {a : Addr} {o : HO} (h : H a = some o) (hn : a ∉ m.flatten) : a ∉ m'.flatten := fun hm => by
  rcases f.new a hm with q | q
  · exact hn q
  · rw [h] at q; cases q
theorem Wf.rr (x : Wf z m F w H) (h : RepR z m F H v d) (f : Fm m F H m' F' H') : RepR z m' F' H' v d := by
  rcases h with h | ⟨a, vs, ds, rfl, rfl, h1, h2, h3⟩ | ⟨a, vs, ds, rfl, rfl, h1, h2, h3⟩
  · exact .inl (x.rep f h)
  · exact .inr (.inl ⟨a, vs, ds, rfl, rfl, f.keep a _ h1 h3, x.repAll f h2, f.out h1 h3⟩)
  · exact .inr (.inr ⟨a, vs, ds, rfl, rfl, f.keep a _ h1 h3, x.repD f h2, f.out h1 h3⟩)
theorem Rep.r (h : Rep z m F H v d) : RepR z m F H v d := .inl h
end

/-- a reading -/
def rd {α β : Type} (b : Bx) (Rl : Mu → Fz → Hp → β → α → Prop) (f : Sl → M α) : L2.St → Hp → (β → Hp → Prop) → Prop := fun σ H Q =>
  ∃ m F s w, Wf b.z m F w H ∧ SlR b.z m F b.H0 s σ H ∧ Post b m F H (f s w) Rl Q

section
variable {X : Cx} {e : Expr}
theorem _root_.L2.PE.imp {t t' : TE} (h : PE X e t) (i : ∀ σ H Q, t' σ H Q → t σ H Q) : PE X e t' := ⟨fun pins s σ H Q I q => h.run pins s σ H Q I (i σ H Q q)⟩
theorem _root_.L2.PT.imp {t t' : TT} (h : PT X e t) (i : ∀ σ H Q, t' σ H Q → t σ H Q) : PT X e t' := ⟨fun pins s σ H Q I q => h.run pins s σ H Q I (i σ H Q q)⟩
theorem _root_.L2.PW.imp {t t' : TT} (h : PW X e t) (i : ∀ σ H Q, t' σ H Q → t σ H Q) : PW X e t' := ⟨fun wh pins s σ H Q I q => h.run wh pins s σ H Q I (i σ H Q q)⟩
theorem _root_.L2.PA.imp {es : List Expr} {t t' : TA} (h : PA X es t) (i : ∀ σ H Q, t' σ H Q → t σ H Q) : PA X es t' := ⟨fun pos pins s σ H Q I q => h.run pos pins s σ H Q I (i σ H Q q)⟩
theorem _root_.L2.PS.imp {st : Stmt} {t t' : TS} (h : PS X st t) (i : ∀ D σ H, t' D σ H → t D σ H) : PS X st t' := ⟨fun pins s σ H D I q => h.run pins s σ H D I (i D σ H q)⟩
theorem _root_.L2.PSs.imp {st : List Stmt} {t t' : TS} (h : PSs X st t) (i : ∀ D σ H, t' D σ H → t D σ H) : PSs X st t' := ⟨fun pins s σ H D I q => h.run pins s σ H D I (i D σ H q)⟩
theorem _root_.L2.PI.imp {tg it : Expr} {t t' : TI} (h : PI X tg it t) (i : ∀ σ H Q, t' σ H Q → t σ H Q) : PI X tg it t' := ⟨fun pins s σ H Q I q => h.run pins s σ H Q I (i σ H Q q)⟩
theorem _root_.L2.PG.imp {tg : Expr} {t t' : TG} (h : PG X tg t) (i : ∀ v σ H Q, t' v σ H Q → t v σ H Q) : PG X tg t' := ⟨fun pins s σ H v u Q I r q => h.run pins s σ H v u Q I r (i v σ H Q q)⟩
end

/-- the readings of expressions: strict, and for reading alone -/
abbrev rE (b : Bx) (f : Sl → M D) : TE := rd b (Rep b.z) f
abbrev rR (b : Bx) (f : Sl → M D) : TE := rd b (RepR b.z) f
abbrev rA (b : Bx) (f : Sl → M (List D)) : TA := rd b (RepAll b.z) f
abbrev EqL {α : Type} : Mu → Fz → Hp → α → α → Prop := fun _ _ _ x y => x = y
abbrev rT (b : Bx) (f : Sl → M Bool) : TT := rd b EqL f

section
variable {X : Cx} {b : Bx} {cf : CF}
/-- what is strict may be read -/
theorem rE.toR {f : Sl → M D} {e : Expr} (h : PE X e (rE b f)) : PE X e (rR b f) := h.imp fun σ H Q ⟨m, F, s, w, wf, sl, p⟩ => ⟨m, F, s, w, wf, sl, by
  unfold Post at p ⊢
  cases q : f s w with
  | ok d w' =>
    rw [q] at p
    exact fun m' F' H' v g wf' r => p m' F' H' v g wf' (.inl r)
  | exc c w' => rw [q] at p; exact p
  | bad => rw [q] at p; exact p⟩

theorem se_var {i : Nat} {x : Str} {pos : Pos} (hN : X.N[i]? = some x) (hv : Vis X.env.scope x) (hd : (x == ("__debug__" : Str)) = false) (hcd : (x == ("__classdict__" : Str)) = false) : PE X (.Name x pos) (rE b (evE cf (.var i))) :=
  (pe_var hN hv hd hcd).imp fun σ H Q ⟨m, F, s, w, wf, sl, p⟩ => by
    have p : Post b m F H (lift (getI s i) w) (Rep b.z) Q := by simpa only [evE] using p
    obtain ⟨d, e, p⟩ := p.lift1
    unfold getI at e
    split at e
    · rename_i d' q
      cases e
      obtain ⟨v, e1, r⟩ := sl.imm i _ q
      exact ⟨v, e1, p m F H v (Fm.refl _ _ _) wf r⟩
    · cases e
theorem se_pk {i : Nat} {x : Str} {pos : Pos} (hN : X.N[i]? = some x) (hv : Vis X.env.scope x) (hd : (x == ("__debug__" : Str)) = false) (hcd : (x == ("__classdict__" : Str)) = false) : PE X (.Name x pos) (rR b (evE cf (.pk i))) :=
  (pe_var hN hv hd hcd).imp fun σ H Q ⟨m, F, s, w, wf, sl, p⟩ => by
    have p : Post b m F H (lift (getP s i) w) (RepR b.z) Q := by simpa only [evE] using p
    obtain ⟨d, e, p⟩ := p.lift1
    unfold getP at e
    split at e
    · rename_i d' q
      cases e
      obtain ⟨v, e1, r⟩ := sl.imm i _ q
      exact ⟨v, e1, p m F H v (Fm.refl _ _ _) wf (.inl r)⟩
    · rename_i xs q
      cases e
      obtain ⟨a, vs, e1, e2, r⟩ := sl.lst i _ q
      obtain ⟨_, h2, _⟩ := sl.free i a (.inl ⟨xs, q⟩) e1
      exact ⟨.ref a, e1, p m F H _ (Fm.refl _ _ _) wf (.inr (.inl ⟨a, vs, xs, rfl, rfl, e2, r, h2⟩))⟩
    · rename_i xs q
      cases e
      obtain ⟨a, vs, e1, e2, r⟩ := sl.dct i _ q
      obtain ⟨_, h2, _⟩ := sl.free i a (.inr ⟨xs, q⟩) e1
      exact ⟨.ref a, e1, p m F H _ (Fm.refl _ _ _) wf (.inr (.inr ⟨a, vs, xs, rfl, rfl, e2, r, h2⟩))⟩
    · cases e
/-- a constant -/
theorem se_c {e : Expr} {v : V} {d : D} {f : Sl → M D} (h : PE X e (tC v)) (hf : ∀ s w, f s w = .ok d w) (r : ∀ m F H, Rep b.z m F H v d) : PE X e (rE b f) :=
  h.imp fun σ H Q ⟨m, F, s, w, wf, sl, p⟩ => by
    rw [hf] at p
    exact p m F H v (Fm.refl _ _ _) wf (r m F H)

def notStar : Expr → Bool
  | .Starred .. => false
  | _ => true
theorem star_cons {e : Expr} {es : List Expr} {env : Env} (h : notStar e = true) : starEach (e :: es) env = (false, eval e env) :: starEach es env := by
  cases e <;> first | rfl | (exact absurd h (by simp [notStar]))
theorem sa_nil : PA X [] (rA b (evEs cf .nil)) := pa_nil.imp fun σ H Q ⟨m, F, s, w, wf, sl, p⟩ => p m F H [] (Fm.refl _ _ _) wf .nil
theorem sa_cons {e : Expr} {es : List Expr} {c : E} {cs : Es} (he : PE X e (rE b (evE cf c))) (hes : PA X es (rA b (evEs cf cs))) (hs : notStar e = true) : PA X (e :: es) (rA b (evEs cf (.cons c cs))) :=
  (pa_cons he hes (star_cons hs)).imp fun σ H Q ⟨m, F, s, w, wf, sl, p⟩ => by
    have p : Post b m F H (bnd (evE cf c s) (fun x => bnd (evEs cf cs s) fun r => ret (x :: r)) w) (RepAll b.z) Q := by simpa only [evEs] using p
    refine ⟨m, F, s, w, wf, sl, (p.bind).imp fun x H1 ⟨m1, F1, d, w1, f1, wf1, r1, p1⟩ => ?_⟩
    refine ⟨m1, F1, s, w1, wf1, sl.fm wf f1, (p1.bind).imp fun xs H2 ⟨m2, F2, ds, w2, f2, wf2, r2, p2⟩ => ?_⟩
    exact p2 m2 F2 H2 _ (Fm.refl _ _ _) wf2 (.cons (wf1.rep f2 r1) r2)

theorem lim_eq : LIM = sizeLine := by rw [sizeLine_eq]; rfl
theorem se_tup {es : List Expr} {cs : Es} {x1 : Nat} {pos : Pos} (h : PA X es (rA b (evEs cf cs))) : PE X (.Tuple es x1 pos) (rE b (evE cf (.tup cs))) :=
  (pe_tupN h).imp fun σ H Q ⟨m, F, s, w, wf, sl, p⟩ => by
    have p : Post b m F H (bnd (evEs cf cs s) (fun ds => if ds.length ≤ LIM then ret (.tuple ds) else bad) w) (Rep b.z) Q := by simpa only [evE] using p
    refine ⟨m, F, s, w, wf, sl, (p.bind).imp fun vs H1 ⟨m1, F1, ds, w1, f1, wf1, r1, p1⟩ => ?_⟩
    by_cases hl : ds.length ≤ LIM
    · rw [if_pos hl] at p1
      refine ⟨by rw [r1.length, ← lim_eq]; exact hl, fun q o hq hd => ?_⟩
      exact p1 m1 (frzA F1 q) _ _ (Fm.laidF hq) (wf1.laidF hq) (.tup (.new (.inr rfl) hd upd_same) (wf1.repAll (Fm.laidF hq) r1))
    · rw [if_neg hl] at p1
      exact p1.elim
end
end Ev

set_option Elab.async false
set_option linter.all false
set_option maxRecDepth 100000
set_option autoImplicit false
namespace Ev
open PySem PySem.Spec PyProof.Rows L2

section
variable {z : Zt} {m : Mu} {F : Fz} {H : Hp} {v : V}
theorem RepR.int {i : Int} (h : RepR z m F H v (.int i)) : v = .int i := by
  rcases h with h | ⟨_, _, _, _, q, _⟩ | ⟨_, _, _, _, q, _⟩
  · cases h; rfl
  · cases q
  · cases q
theorem RepR.bool {i : Bool} (h : RepR z m F H v (.bool i)) : v = .bl i := by
  rcases h with h | ⟨_, _, _, _, q, _⟩ | ⟨_, _, _, _, q, _⟩
  · cases h; rfl
  · cases q
  · cases q
theorem RepR.str {i : Str} (h : RepR z m F H v (.str i)) : v = .str i := by
  rcases h with h | ⟨_, _, _, _, q, _⟩ | ⟨_, _, _, _, q, _⟩
  · cases h; rfl
  · cases q
  · cases q
theorem RepR.non (h : RepR z m F H v .none) : v = .non := by
  rcases h with h | ⟨_, _, _, _, q, _⟩ | ⟨_, _, _, _, q, _⟩
  · cases h; rfl
  · cases q
  · cases q
theorem RepR.list {ds : List D} (h : RepR z m F H v (.list ds)) : ∃ a vs, v = .ref a ∧ H a = some (.lst vs) ∧ RepAll z m F H vs ds := by
  rcases h with h | ⟨a, vs, _, e, q, h1, h2, _⟩ | ⟨_, _, _, _, q, _⟩
  · cases h with
    | lst h1 h2 h3 => exact ⟨_, _, rfl, h2, h3⟩
  · cases q
    exact ⟨a, vs, e, h1, h2⟩
  · cases q
theorem RepR.tuple {ds : List D} (h : RepR z m F H v (.tuple ds)) : ∃ a vs, v = .ref a ∧ NT z F H a vs ∧ RepAll z m F H vs ds := by
  rcases h with h | ⟨a, vs, _, e, q, h1, h2, _⟩ | ⟨_, _, _, _, q, _⟩
  · cases h with
    | tup h1 h3 => exact ⟨_, _, rfl, h1, h3⟩
  · cases q
  · cases q
theorem tk_key {k : D} (h : tkOk k = true) : keyOk k = false := by
  simp only [tkOk, Bool.and_eq_true] at h
  cases k <;> first | rfl | (exact absurd h.1.1 (by simp [isTup]))
/-- keys of ints and texts -/
theorem RepD.keyed {a : Addr} {o : HO} {ds : List (D × D)} (h : RepD z m F H a o ds) (hk : (ds.all fun p => keyOk p.1) = true) : ∃ ks, o = .dK ks ∧ RepKV z m F H ks ds := by
  cases h with
  | k r => exact ⟨_, rfl, r⟩
  | n r hn =>
    exfalso
    cases r with
    | nil => exact hn rfl
    | cons h0 _ _ _ =>
      rw [List.all_cons, Bool.and_eq_true, tk_key h0] at hk
      cases hk.1
theorem RepR.dict {ds : List (D × D)} (h : RepR z m F H v (.dict ds)) (hk : (ds.all fun p => keyOk p.1) = true) : ∃ a ks, v = .ref a ∧ Rd H a (.dK ks) ∧ RepKV z m F H ks ds := by
  rcases h with h | ⟨a, vs, _, e, q, h1, h2, _⟩ | ⟨a, vs, _, e, q, h1, h2, _⟩
  · generalize hd : PyData.dict ds = d at h
    cases h with
    | dK h1 h2 h3 =>
      cases hd
      obtain ⟨ks, e, r⟩ := RepD.keyed h3 hk
      subst e
      exact ⟨_, _, rfl, .inr ⟨_, h2⟩, r⟩
    | fn n => cases hd; exact absurd hk (by simp [keyOk])
    | scr => cases hd; exact absurd hk (by simp [keyOk])
    | ob h => cases hd; exact absurd hk (by simp [keyOk])
    | _ => cases hd
  · cases q
  · cases q
    obtain ⟨ks, e2, r⟩ := RepD.keyed h2 hk
    subst e2
    exact ⟨a, ks, e, .inl h1, r⟩
/-- for the library's rules -/
theorem RepR.dp {K : PySem.W.Frag} {d : D} (hK : K = z.K) (h : RepR z m F H v d) (hd : ok2 d = true) : Dp K H v d := by
  have hc := SeqAt.canLay_of_shaped hd
  rcases h with h | ⟨a, vs, ds, rfl, rfl, h1, h2, _⟩ | ⟨a, vs, _, e, rfl, h1, h2, _⟩
  · exact h.dp hK hc
  · exact .lst (.inl (.inl h1)) (h2.dp hK (by simpa [PyData.canLay0] using hc))
  · simp [PyData.canLay0] at hc
end

/-- an operator's promise by data -/
def rOp (b : Bx) (f : D → D → Option D) : R2 := fun x y H Q => ∃ m F w dx dy, Wf b.z m F w H ∧ RepR b.z m F H x dx ∧ RepR b.z m F H y dy ∧ Post b m F H (lift (f dx dy) w) (Rep b.z) Q

section
variable {X : Cx} {b : Bx} [KEq X b.z]
/-- a new tuple, a new list: frozen at once -/
theorem Post.tup {m : Mu} {F : Fz} {H : Hp} {w : W} {ds : List D} {Q : VK} {vs : List V} (p : Post b m F H (.ok (.tuple ds) w) (Rep b.z) Q) (wf : Wf b.z m F w H) (r : RepAll b.z m F H vs ds) : NewT Q H vs :=
  fun q o hq hd => p m (frzA F q) _ _ (Fm.laidF hq) (wf.laidF hq) (.tup (.new (.inr rfl) hd upd_same) (wf.repAll (Fm.laidF hq) r))
theorem Post.lst {m : Mu} {F : Fz} {H : Hp} {w : W} {ds : List D} {Q : VK} {vs : List V} (p : Post b m F H (.ok (.list ds) w) (Rep b.z) Q) (wf : Wf b.z m F w H) (r : RepAll b.z m F H vs ds) : ∀ q, H q = none → Q (.ref q) (upd H q (.lst vs)) :=
  fun q hq => p m (frzA F q) _ _ (Fm.laidF hq) (wf.laidF hq) (.lst (.inr rfl) upd_same (wf.repAll (Fm.laidF hq) r))
theorem Post.here {m : Mu} {F : Fz} {H : Hp} {w : W} {d : D} {Q : VK} {v : V} (p : Post b m F H (.ok d w) (Rep b.z) Q) (wf : Wf b.z m F w H) (r : Rep b.z m F H v d) : Q v H := p m F H v (Fm.refl _ _ _) wf r

theorem od_add : OpR X (binaryOp .Add) (rOp b addD) := by
  intro pins s σ H x y v u Q I rx ry ⟨m, F, w, dx, dy, wf, hx, hy, p⟩
  obtain ⟨d, e, p⟩ := p.lift1
  unfold addD at e
  split at e
  · cases e
    exact op_add pins s σ H x y v u Q I rx ry ⟨_, _, hx.int, hy.int, p.here wf (.int _)⟩
  · split at e
    · rename_i hl
      cases e
      obtain ⟨a, vs, rfl, h1, h2⟩ := hx.tuple
      obtain ⟨c, us, rfl, k1, k2⟩ := hy.tuple
      have l1 := h2.length
      have l2 := k2.length
      refine op_catN pins s σ H _ _ v u Q I rx ry ⟨a, c, vs, us, rfl, rfl, h1.sq KEq.eq, k1.sq KEq.eq, by rw [l1, l2, ← lim_eq]; exact hl, fun hn => ?_, fun _ hn => ?_, fun _ _ => p.tup wf (h2.append k2)⟩
      · subst hn
        cases h2
        exact p.here wf (.tup k1 k2)
      · subst hn
        cases k2
        rw [List.append_nil] at p
        exact p.here wf (.tup h1 h2)
    · cases e
  · split at e
    · rename_i hl
      cases e
      obtain ⟨a, vs, rfl, h1, h2⟩ := hx.list
      obtain ⟨c, us, rfl, k1, k2⟩ := hy.list
      exact op_cat pins s σ H _ _ v u Q I rx ry ⟨a, c, vs, us, rfl, rfl, h1, k1, by rw [h2.length, k2.length, ← lim_eq]; exact hl, p.lst wf (h2.append k2)⟩
    · cases e
  · split at e
    · rename_i hl
      cases e
      exact op_add_str pins s σ H _ _ v u Q I rx ry ⟨_, _, hx.str, hy.str, by rw [← lim_eq]; exact hl, p.here wf (.str _)⟩
    · cases e
  · cases e
theorem od_sub : OpR X (binaryOp .Sub) (rOp b subD) := by
  intro pins s σ H x y v u Q I rx ry ⟨m, F, w, dx, dy, wf, hx, hy, p⟩
  obtain ⟨d, e, p⟩ := p.lift1
  unfold subD at e
  split at e
  · cases e
    exact op_sub pins s σ H x y v u Q I rx ry ⟨_, _, hx.int, hy.int, p.here wf (.int _)⟩
  · cases e
theorem op_mul_txt : OpR X (binaryOp .Mult) (fun x y H Q => ∃ z i, x = .str z ∧ y = .int i ∧ 0 ≤ i ∧ i ≤ 1000 ∧ z.length ≤ 1000 ∧ Q (.str (Txt.mul z i)) H) := by
  intro pins s σ H x y v u Q I rx ry h
  obtain ⟨z, i, rfl, rfl, h0, h1, h2, q⟩ := h
  obtain ⟨t, rfl⟩ := rx
  obtain ⟨t', rfl⟩ := ry
  exact PySem.SB.mul (PyProof.Rows.mulOk_of 1000 1000 h2 (by omega) (by omega) (by decide) (by decide)) fun t' k => ⟨.str _, H, I.tok _, ⟨_, rfl⟩, q⟩
theorem od_mul : OpR X (binaryOp .Mult) (rOp b mulD) := by
  intro pins s σ H x y v u Q I rx ry ⟨m, F, w, dx, dy, wf, hx, hy, p⟩
  obtain ⟨d, e, p⟩ := p.lift1
  unfold mulD at e
  split at e
  · split at e
    · rename_i hm
      cases e
      refine op_mul pins s σ H x y v u Q I rx ry ⟨_, _, hx.int, hy.int, ?_, p.here wf (.int _)⟩
      unfold mulOk at hm
      simp only [Bool.or_eq_true, Bool.and_eq_true, decide_eq_true_eq] at hm
      exact hm
    · cases e
  · split at e
    · rename_i hm
      cases e
      obtain ⟨a, vs, rfl, h1, h2⟩ := hx.tuple
      have l1 := h2.length
      refine op_repN pins s σ H _ y v u Q I rx ry ⟨a, _, vs, rfl, hy.int, h1.sq KEq.eq, fun hn => hm.1 ?_, hm.2.1, hm.2.2.1, by rw [l1]; exact hm.2.2.2, p.tup wf (h2.rep _)⟩
      subst hn
      cases h2
      rfl
    · split at e
      · rename_i hm
        cases e
        obtain ⟨a, vs, rfl, h1, h2⟩ := hx.tuple
        have l1 := h2.length
        rw [hm.1] at l1
        exact op_repT0 pins s σ H _ y v u Q I rx ry ⟨a, _, vs, rfl, hy.int, h1.sq KEq.eq, List.eq_nil_of_length_eq_zero l1, by omega, by omega, p.here wf (.tup h1 h2)⟩
      · cases e
  · split at e
    · rename_i hm
      cases e
      obtain ⟨a, vs, rfl, h1, h2⟩ := hx.list
      have l1 := h2.length
      exact op_rep pins s σ H _ y v u Q I rx ry ⟨a, _, vs, rfl, hy.int, h1, by omega, by omega, by rw [l1, ← lim_eq]; exact hm.2.2, p.lst wf (h2.rep _)⟩
    · cases e
  · split at e
    · rename_i hm
      cases e
      exact op_mul_txt pins s σ H _ y v u Q I rx ry ⟨_, _, hx.str, hy.int, hm.1, hm.2.1, hm.2.2, p.here wf (.str _)⟩
    · cases e
  · cases e
theorem od_le : OpR X (compareOp .LtE) (rOp b leD) := by
  intro pins s σ H x y v u Q I rx ry ⟨m, F, w, dx, dy, wf, hx, hy, p⟩
  obtain ⟨d, e, p⟩ := p.lift1
  unfold leD at e
  split at e
  · cases e
    exact op_le pins s σ H x y v u Q I rx ry ⟨_, _, hx.int, hy.int, p.here wf (.bl _)⟩
  · cases e
theorem od_gt (hu : X.A.units + 64 < cLine) : OpR X (compareOp .Gt) (rOp b gtD) := by
  intro pins s σ H x y v u Q I rx ry ⟨m, F, w, dx, dy, wf, hx, hy, p⟩
  obtain ⟨d, e, p⟩ := p.lift1
  unfold gtD at e
  split at e
  · cases e
    exact op_gt pins s σ H x y v u Q I rx ry ⟨_, _, hx.int, hy.int, p.here wf (.bl _)⟩
  · split at e
    · rename_i hm
      simp only [Bool.and_eq_true] at hm
      obtain ⟨⟨h1, h2⟩, h3⟩ := hm
      cases e
      obtain ⟨as, r1⟩ := Dp.reads I _ x v (hx.dp KEq.eq h1) rx
      obtain ⟨bs, r2⟩ := Dp.reads I _ y u (hy.dp KEq.eq h2) ry
      exact PySem.W.rcGt_alike _ _ X.A s v u as bs r1 r2 h3 (fun q => nomatch q) (SeqAt.room_of_shaped h1 hu) _ _ _ _ ⟨.bl _, H, I, rfl, p.here wf (.bl _)⟩
    · cases e
  · cases e
theorem od_ge : OpR X (compareOp .GtE) (rOp b geD) := by
  intro pins s σ H x y v u Q I rx ry ⟨m, F, w, dx, dy, wf, hx, hy, p⟩
  obtain ⟨d, e, p⟩ := p.lift1
  unfold geD at e
  split at e
  · cases e
    exact op_ge pins s σ H x y v u Q I rx ry ⟨_, _, hx.int, hy.int, p.here wf (.bl _)⟩
  · cases e
theorem od_lt (hu : X.A.units + 64 < cLine) : OpR X (compareOp .Lt) (rOp b fun x y => (ltD x y).map .bool) := by
  intro pins s σ H x y v u Q I rx ry ⟨m, F, w, dx, dy, wf, hx, hy, p⟩
  obtain ⟨d, e, p⟩ := p.lift1
  dsimp only at e
  unfold ltD at e
  split at e
  · rename_i hm
    simp only [Bool.and_eq_true] at hm
    obtain ⟨⟨⟨h1, h2⟩, h3⟩, h4⟩ := hm
    cases e
    obtain ⟨as, r1⟩ := Dp.reads I dx x v (hx.dp KEq.eq h1) rx
    obtain ⟨bs, r2⟩ := Dp.reads I dy y u (hy.dp KEq.eq h2) ry
    have hn : dx ≠ .none := fun q => by subst q; simp [notNone] at h4
    exact PySem.W.rcLt_alike dx dy X.A s v u as bs r1 r2 h3 hn (SeqAt.room_of_shaped h1 hu) _ _ _ _ ⟨.bl _, H, I, rfl, p.here wf (.bl _)⟩
  · cases e
theorem od_eq (hu : X.A.units + 64 < cLine) : OpR X (compareOp .Eq) (rOp b fun x y => (eqD x y).map .bool) := by
  intro pins s σ H x y v u Q I rx ry ⟨m, F, w, dx, dy, wf, hx, hy, p⟩
  obtain ⟨d, e, p⟩ := p.lift1
  dsimp only at e
  unfold eqD at e
  split at e
  · rename_i hm
    simp only [Bool.and_eq_true] at hm
    cases e
    exact op_eqD hu pins s σ H x y v u Q I rx ry ⟨dx, dy, hx.dp KEq.eq hm.1, hy.dp KEq.eq hm.2, hm.1, hm.2, p.here wf (.bl _)⟩
  · cases e
theorem od_ne (hu : X.A.units + 64 < cLine) : OpR X (compareOp .NotEq) (rOp b fun x y => (eqD x y).map fun c => .bool (!c)) := by
  intro pins s σ H x y v u Q I rx ry ⟨m, F, w, dx, dy, wf, hx, hy, p⟩
  obtain ⟨d, e, p⟩ := p.lift1
  dsimp only at e
  unfold eqD at e
  split at e
  · rename_i hm
    simp only [Bool.and_eq_true] at hm
    cases e
    exact op_neD hu pins s σ H x y v u Q I rx ry ⟨dx, dy, hx.dp KEq.eq hm.1, hy.dp KEq.eq hm.2, hm.1, hm.2, p.here wf (.bl _)⟩
  · cases e
theorem od_isN : OpR X (compareOp .Is) (rOp b fun x y => (isND x y).map .bool) := by
  intro pins s σ H x y v u Q I rx ry ⟨m, F, w, dx, dy, wf, hx, hy, p⟩
  obtain ⟨d, e, p⟩ := p.lift1
  have key : ∀ (c : Bool), decide (x = V.non) = c → y = .non → d = .bool c → OpR X (compareOp .Is) (fun x y H Q => y = .non ∧ Q (.bl (decide (x = .non))) H) → wpAny (model X.prog X.w) X.A (compareOp .Is v u) (EP X pins σ Q) X.xe s := fun c hc hyn hd rule => by
    subst hd
    exact rule pins s σ H x y v u Q I rx ry ⟨hyn, by rw [hc]; exact p.here wf (.bl _)⟩
  dsimp only at e
  cases dy with
  | none =>
    by_cases hdx : dx = .none
    · subst hdx
      cases e
      exact key true (by rw [hx.non]; rfl) hy.non rfl op_isN
    · have hi : isND dx .none = some false := by
        cases dx with
        | none => exact absurd rfl hdx
        | _ => rfl
      rw [hi] at e
      cases e
      refine key false (decide_eq_false fun q => ?_) hy.non rfl op_isN
      subst q
      rcases hx with h | ⟨_, _, _, q, _⟩ | ⟨_, _, _, q, _⟩
      · cases h
        exact hdx rfl
      · cases q
      · cases q
  | bool c =>
    cases dx with
    | bool a =>
      cases e
      refine op_is_bl pins s σ H x y v u Q I rx ry ⟨a, c, hx.bool, hy.bool, p.here wf (.bl _)⟩
    | _ => cases e
  | _ => 
    cases dx <;> cases e
theorem od_notN : OpR X (compareOp .IsNot) (rOp b fun x y => (isND x y).map fun c => .bool (!c)) := by
  intro pins s σ H x y v u Q I rx ry ⟨m, F, w, dx, dy, wf, hx, hy, p⟩
  obtain ⟨d, e, p⟩ := p.lift1
  have key : ∀ (c : Bool), decide (x = V.non) = c → y = .non → d = .bool (!c) → OpR X (compareOp .IsNot) (fun x y H Q => y = .non ∧ Q (.bl (!decide (x = .non))) H) → wpAny (model X.prog X.w) X.A (compareOp .IsNot v u) (EP X pins σ Q) X.xe s := fun c hc hyn hd rule => by
    subst hd
    exact rule pins s σ H x y v u Q I rx ry ⟨hyn, by rw [hc]; exact p.here wf (.bl _)⟩
  dsimp only at e
  cases dy with
  | none =>
    by_cases hdx : dx = .none
    · subst hdx
      cases e
      exact key true (by rw [hx.non]; rfl) hy.non rfl op_notN
    · have hi : isND dx .none = some false := by
        cases dx with
        | none => exact absurd rfl hdx
        | _ => rfl
      rw [hi] at e
      cases e
      refine key false (decide_eq_false fun q => ?_) hy.non rfl op_notN
      subst q
      rcases hx with h | ⟨_, _, _, q, _⟩ | ⟨_, _, _, q, _⟩
      · cases h
        exact hdx rfl
      · cases q
      · cases q
  | bool c =>
    cases dx with
    | bool a =>
      cases e
      refine op_isnot_bl pins s σ H x y v u Q I rx ry ⟨a, c, hx.bool, hy.bool, p.here wf (.bl _)⟩
    | _ => cases e
  | _ => 
    cases dx <;> cases e
end
end Ev

set_option Elab.async false
set_option linter.all false
set_option maxRecDepth 100000
set_option autoImplicit false
namespace Ev
open PySem PySem.Spec PyProof.Rows L2
section
variable {P : Program} {w : World} {z : Zt} {m : Mu} {F : Fz} {H : Hp} {h : Heap}
mutual
theorem Rep.nest (ok : HokK P w z H h) : ∀ {v : V} {d : D}, Rep z m F H v d → hkOk d = true → ∀ u, RelV v u → NestedIs h (nkOf d) u
  | _, _, .non, _, u, r => by cases (show u = .none from r); exact .none
  | _, _, .bl b, _, u, r => by cases (show u = .bool b from r); exact .bool rfl
  | _, _, .int i, _, u, r => by obtain ⟨t, e⟩ := (show ∃ t, u = Value.int i t from r); subst e; exact .int i t
  | _, _, .str x, _, u, r => by obtain ⟨t, e⟩ := (show ∃ t, u = Value.str x t from r); subst e; exact .text x t
  | _, _, .tup (a := a) h1 h3, hk, u, r => by
    cases (show u = .ref a from r)
    rcases h1 with ⟨_, ob, h2, _⟩ | ⟨o, its, n, e1, e2, _, e3, _, rv⟩
    · obtain ⟨_, _, its, rv, o, e1, e2, n, e3⟩ := (show ObjOk P w H h a (.frz ob (.tup _)) from ok.hok a _ h2)
      exact .tup e1 e2 e3 (RepAll.nest ok h3 (by rw [hkOk] at hk; exact hk) _ (by simpa using rv))
    · exact .tup (ok.kin a o e1) e2 e3 (RepAll.nest ok h3 (by rw [hkOk] at hk; exact hk) _ (by simpa using rv))
  | _, _, .lst _ _ _, hk, _, _ => by simp [hkOk] at hk
  | _, _, .dK _ _ _, hk, _, _ => by simp [hkOk] at hk
  | _, _, .fn n, hk, _, _ => by simp [fnD, hkOk] at hk
  | _, _, .scr, hk, _, _ => by simp [scrD, hkOk] at hk
  | _, _, .ob _, hk, _, _ => by simp [obD, hkOk] at hk
theorem RepAll.nest (ok : HokK P w z H h) : ∀ {vs : List V} {ds : List D}, RepAll z m F H vs ds → hkAll ds = true → ∀ us, Vals vs us → NestedAll h (nksOf ds) us
  | _, _, .nil, _, us, r => by cases r; exact .nil
  | _, _, .cons h1 h2, hk, us, r => by
    rw [hkAll, Bool.and_eq_true] at hk
    cases r with
    | cons r1 r2 => exact .cons (Rep.nest ok h1 hk.1 _ r1) (RepAll.nest ok h2 hk.2 _ r2)
end
end
mutual
theorem nk_depth : ∀ d : D, (nkOf d).depth ≤ d.depth
  | .none => Nat.zero_le _
  | .bool _ => Nat.zero_le _
  | .int _ => Nat.zero_le _
  | .str _ => Nat.zero_le _
  | .list _ => Nat.zero_le _
  | .dict _ => Nat.zero_le _
  | .tuple xs => by
    have := nks_depth xs
    show NestedKey.depthAll (nksOf xs) + 1 ≤ PyData.depthAll xs + 1
    omega
theorem nks_depth : ∀ xs : List D, NestedKey.depthAll (nksOf xs) ≤ PyData.depthAll xs
  | [] => Nat.zero_le _
  | x :: xs => by
    have h1 := nk_depth x
    have h2 := nks_depth xs
    show max (nkOf x).depth (NestedKey.depthAll (nksOf xs)) ≤ max x.depth (PyData.depthAll xs)
    omega
end
mutual
theorem eqv_hk : ∀ (x y : D), hkOk x = true → hkOk y = true → PyData.eqv x y = NestedKey.beq (nkOf x) (nkOf y)
  | .none, y, _, hy => by cases y <;> simp [hkOk] at hy <;> simp [PyData.eqv, nkOf, NestedKey.beq]
  | .bool a, y, _, hy => by cases y <;> simp [hkOk] at hy <;> cases a <;> simp [PyData.eqv, nkOf, NestedKey.beq] <;> (first | rfl | (rename_i b; cases b <;> rfl) | (rename_i i; rw [Bool.eq_iff_iff]; simp; try exact eq_comm))
  | .int i, y, _, hy => by cases y <;> simp [hkOk] at hy <;> simp [PyData.eqv, nkOf, NestedKey.beq] <;> (first | rfl | (rename_i b; rw [Bool.eq_iff_iff]; simp))
  | .str a, y, _, hy => by cases y <;> simp [hkOk] at hy <;> simp [PyData.eqv, nkOf, NestedKey.beq] <;> (first | rfl | (rw [Bool.eq_iff_iff]; simp))
  | .tuple xs, y, hx, hy => by
    cases y with
    | tuple ys =>
      rw [PyData.eqv, nkOf, nkOf, NestedKey.beq]
      exact eqvAll_hk xs ys (by rw [hkOk] at hx; exact hx) (by rw [hkOk] at hy; exact hy)
    | none => simp [PyData.eqv, nkOf, NestedKey.beq]
    | bool _ => simp [PyData.eqv, nkOf, NestedKey.beq]
    | int _ => simp [PyData.eqv, nkOf, NestedKey.beq]
    | str _ => simp [PyData.eqv, nkOf, NestedKey.beq]
    | list _ => simp [hkOk] at hy
    | dict _ => simp [hkOk] at hy
  | .list _, _, hx, _ => by simp [hkOk] at hx
  | .dict _, _, hx, _ => by simp [hkOk] at hx
theorem eqvAll_hk : ∀ (xs ys : List D), hkAll xs = true → hkAll ys = true → PyData.eqvAll xs ys = NestedKey.beqAll (nksOf xs) (nksOf ys)
  | [], [], _, _ => by simp [PyData.eqvAll, nksOf, NestedKey.beqAll]
  | [], _ :: _, _, _ => by simp [PyData.eqvAll, nksOf, NestedKey.beqAll]
  | _ :: _, [], _, _ => by simp [PyData.eqvAll, nksOf, NestedKey.beqAll]
  | x :: xs, y :: ys, hx, hy => by
    rw [hkAll, Bool.and_eq_true] at hx hy
    rw [PyData.eqvAll, nksOf, nksOf, NestedKey.beqAll, eqv_hk x y hx.1 hy.1, eqvAll_hk xs ys hx.2 hy.2]
end
theorem tk_split {k : D} (h : tkOk k = true) : (∃ xs, k = .tuple xs) ∧ hkOk k = true ∧ k.depth ≤ 8 := by
  simp only [tkOk, Bool.and_eq_true, decide_eq_true_eq] at h
  refine ⟨?_, h.1.2, h.2⟩
  cases k <;> first | exact ⟨_, rfl⟩ | (exact absurd h.1.1 (by simp [isTup]))
theorem eqv_tk {x y : D} (hx : tkOk x = true) (hy : tkOk y = true) : PyData.eqv x y = decide (nkOf x = nkOf y) := by
  rw [eqv_hk x y (tk_split hx).2.1 (tk_split hy).2.1, NestedKey.decide_eq]
section
variable {P : Program} {w : World} {z : Zt} {m : Mu} {F : Fz} {H : Hp} {h : Heap}
/-- a tuple that is a key -/
theorem RepR.tk (ok : HokK P w z H h) {v : V} {k : D} (r : RepR z m F H v k) (hk : tkOk k = true) : ∃ a, v = .ref a ∧ (nestedKind P w).is h (nkOf k) a ∧ Rep z m F H (.ref a) k := by
  obtain ⟨⟨xs, rfl⟩, h1, h2⟩ := tk_split hk
  obtain ⟨a, vs, rfl, e1, e2⟩ := r.tuple
  have r' : Rep z m F H (.ref a) (.tuple xs) := .tup e1 e2
  exact ⟨a, rfl, ⟨Rep.nest ok r' h1 _ rfl, Nat.le_trans (nk_depth _) h2⟩, r'⟩
abbrev RelN (z : Zt) (m : Mu) (F : Fz) (H : Hp) : List (NestedKey × Addr × Value) → List (D × D) → Prop := Paired fun x p => tkOk p.1 = true ∧ x.1 = nkOf p.1 ∧ Rep z m F H (.ref x.2.1) p.1 ∧ ∃ v, RelV v x.2.2 ∧ Rep z m F H v p.2
structure DV (P : Program) (w : World) (z : Zt) (m : Mu) (F : Fz) (H : Hp) (h : Heap) (a : Addr) (ds : List (D × D)) (xs : List (NestedKey × Addr × Value)) : Prop where
  dd : h.DictOfH (nestedKind P w) a xs
  sm : (a == sysModules) = false
  sz : xs.length ≤ sizeLine
  rel : RelN z m F H xs ds
theorem RelN.of : ∀ {ks : List (NestedKey × Addr × V)} {xs : List (NestedKey × Addr × Value)} {ds : List (D × D)}, PrN ks xs → RepKN z m F H ks ds → RelN z m F H xs ds
  | _, _, _, .nil, .nil => .nil
  | _, _, _, .cons p ps, .cons h0 h1 h2 h3 => by
    obtain ⟨e1, e2, e3⟩ := p
    refine .cons ⟨h0, e1.symm, ?_, _, e3, h2⟩ (RelN.of ps h3)
    rw [← e2]
    exact h1
theorem RelN.back : ∀ {xs : List (NestedKey × Addr × Value)} {ds : List (D × D)}, RelN z m F H xs ds → ∃ ks, PrN ks xs ∧ RepKN z m F H ks ds
  | _, _, .nil => ⟨[], .nil, .nil⟩
  | _, _, .cons p ps => by
    obtain ⟨h0, e1, h1, v, hv, h2⟩ := p
    obtain ⟨ks, q1, q2⟩ := RelN.back ps
    exact ⟨_, .cons ⟨e1.symm, rfl, hv⟩ q1, .cons h0 h1 h2 q2⟩
theorem RelN.is (ok : HokK P w z H h) : ∀ {xs : List (NestedKey × Addr × Value)} {ds : List (D × D)}, RelN z m F H xs ds → ∀ x ∈ xs, (nestedKind P w).is h x.1 x.2.1
  | _, _, .cons p ps, x, hx => by
    rcases List.mem_cons.mp hx with e | hx
    · subst e
      obtain ⟨h0, e1, h1, _⟩ := p
      obtain ⟨_, g1, g2⟩ := tk_split h0
      rw [e1]
      exact ⟨Rep.nest ok h1 g1 _ rfl, Nat.le_trans (nk_depth _) g2⟩
    · exact RelN.is ok ps x hx
theorem RelN.len {xs : List (NestedKey × Addr × Value)} {ds : List (D × D)} (r : RelN z m F H xs ds) : xs.length = ds.length := Paired.length r
theorem RelN.mono {m' : Mu} {F' : Fz} {H' : Hp} (hk : Kp F H H') (hg : ∀ a, F a → F' a) (hm : ∀ n a, mainA m n = some a → mainA m' n = some a) {xs : List (NestedKey × Addr × Value)} {ds : List (D × D)} (r : RelN z m F H xs ds) : RelN z m' F' H' xs ds :=
  Paired.mapP r fun _ _ ⟨h0, e1, h1, v, hv, h2⟩ => ⟨h0, e1, h1.mono hk hg hm, v, hv, h2.mono hk hg hm⟩
/-- an object that holds the table is so described -/
theorem dn_ok {a : Addr} {ks : List (NestedKey × Addr × V)} {xs : List (NestedKey × Addr × Value)} (pr : PrN ks xs) (sz : xs.length ≤ sizeLine) (sm : (a == sysModules) = false) (dd : h.DictOfH (nestedKind P w) a xs) : ObjOk P w H h a (DN w a ks) := by
  obtain ⟨o, es, ep, e1, e2, e3, e4, e5, e6⟩ := dd
  have hl : ks.length = xs.length := Paired.length pr
  refine ⟨⟨xs, pr, by rw [hl]; exact sz, sm, o, es, ep, e1, e2, e3, e4, e6⟩, ⟨o, e1⟩, fun h1 h2 ⟨xs, q1, q2, q3, o, es, ep, q4, q5⟩ k => ⟨xs, q1, q2, q3, o, es, ep, k o q4, q5⟩⟩
theorem dn_view {a : Addr} {ks : List (NestedKey × Addr × V)} {ds : List (D × D)} (ok : HokK P w z H h) (hw : z.wd = w) (e : Rd H a (DN z.wd a ks)) (r : RepKN z m F H ks ds) : ∃ xs, DV P w z m F H h a ds xs := by
  obtain ⟨⟨xs, pr, sz, sm, o, es, ep, e1, e2, e3, e4, e6⟩, _, _⟩ := (show ObjOk P w H h a (DN z.wd a ks) from e.ok ok.hok)
  have rel := RelN.of pr r
  have hl : ks.length = xs.length := Paired.length pr
  refine ⟨xs, ⟨o, es, ep, e1, e2, e3, ?_, RelN.is ok rel, e6⟩, sm, by rw [← hl]; exact sz, rel⟩
  rw [e4, hw]
  rfl
theorem dk_nil {a : Addr} (ok : HokK P w z H h) (e : Rd H a (.dK [])) : DV P w z m F H h a [] [] := by
  obtain ⟨sz, sm, vs, kv, o, es, ep, e1, e2, e3, e4, e5, e6⟩ := (show ObjOk P w H h a (.dK []) from e.ok ok.hok)
  cases kv
  have hz : es.toList = [] := List.length_eq_zero_iff.mp e5.length
  exact ⟨⟨o, es, ep, e1, e2, e3, hz, (fun x hx => by simp at hx), List.nodup_nil⟩, sm, Nat.zero_le _, .nil⟩
theorem nil_dk {a : Addr} (sm : (a == sysModules) = false) (dd : h.DictOfH (nestedKind P w) a []) : ObjOk P w H h a (.dK []) := by
  obtain ⟨o, es, ep, e1, e2, e3, e4, e5, e6⟩ := dd
  have hz : es = #[] := by
    have : es.toList = [] := e4
    exact Array.toList_inj.mp (by simpa using this)
  subst hz
  exact ⟨Nat.zero_le _, sm, [], .nil, o, #[], ep, e1, e2, e3, fun x hx => by simp at hx, .nil, List.nodup_nil⟩
/-- a dict with such keys, read -/
theorem RepD.view {a : Addr} {o : HO} {ds : List (D × D)} (r : RepD z m F H a o ds) (hk : (ds.all fun p => tkOk p.1) = true) (ok : HokK P w z H h) (hw : z.wd = w) (e : Rd H a o) : ∃ xs, DV P w z m F H h a ds xs := by
  cases r with
  | k r =>
    cases r with
    | nil => exact ⟨[], dk_nil ok e⟩
    | @cons k v d kvs ds h t =>
      exfalso
      rw [List.all_cons, Bool.and_eq_true] at hk
      have q := tk_key hk.1
      cases k <;> simp [keyD, keyOk] at q
  | n r hn => exact dn_view ok hw e r
theorem RepR.view {v : V} {ds : List (D × D)} (r : RepR z m F H v (.dict ds)) (hk : (ds.all fun p => tkOk p.1) = true) (ok : HokK P w z H h) (hw : z.wd = w) : ∃ a xs, v = .ref a ∧ DV P w z m F H h a ds xs := by
  rcases r with r | ⟨a, vs, _, e, q, h1, h2, _⟩ | ⟨a, o, _, e, q, h1, h2, _⟩
  · generalize hd : PyData.dict ds = d at r
    cases r with
    | @dK a od o ds' h1 h2 h3 =>
      cases hd
      obtain ⟨xs, q⟩ := h3.view hk ok hw (.inr ⟨od, h2⟩)
      exact ⟨a, xs, rfl, q⟩
    | fn n => cases hd; exact absurd hk (by simp [tkOk, isTup])
    | scr => cases hd; exact absurd hk (by simp [tkOk, isTup])
    | ob h => cases hd; exact absurd hk (by simp [tkOk, isTup])
    | _ => cases hd
  · cases q
  · cases q
    obtain ⟨xs, q⟩ := h2.view hk ok hw (.inl h1)
    exact ⟨a, xs, e, q⟩
/-- .. as the object that it is after a write -/
theorem RelN.obj {a : Addr} {xs : List (NestedKey × Addr × Value)} {ds : List (D × D)} (hw : z.wd = w) (rel : RelN z m F H xs ds) (sz : xs.length ≤ sizeLine) (sm : (a == sysModules) = false) (dd : h.DictOfH (nestedKind P w) a xs) : ∃ o, RepD z m F H a o ds ∧ ∀ H', ObjOk P w H' h a o := by
  cases ds with
  | nil =>
    cases rel
    exact ⟨.dK [], .k .nil, fun H' => nil_dk sm dd⟩
  | cons p ds =>
    obtain ⟨ks, pr, r⟩ := rel.back
    refine ⟨DN z.wd a ks, .n r (by simp), fun H' => ?_⟩
    rw [hw]
    exact dn_ok pr sz sm dd
theorem RelN.look {k : D} (hk : tkOk k = true) : ∀ {xs : List (NestedKey × Addr × Value)} {ds : List (D × D)}, RelN z m F H xs ds → (∀ p, atKey xs (nkOf k) = some p → ∃ d v, lookD ds k = some d ∧ RelV v p.2 ∧ Rep z m F H v d) ∧ (atKey xs (nkOf k) = none → lookD ds k = none)
  | _, _, .nil => ⟨fun p e => by simp [atKey] at e, fun _ => rfl⟩
  | _, _, .cons (a := x) (b := q) (l₁ := xs) (l₂ := ds) h t => by
    obtain ⟨h0, e1, h1, v, hv, h2⟩ := h
    obtain ⟨ih1, ih2⟩ := RelN.look hk t
    have ee : PyData.eqv q.1 k = decide (x.1 = nkOf k) := by rw [eqv_tk h0 hk, e1]
    by_cases hx : x.1 = nkOf k
    · have a1 : atKey (x :: xs) (nkOf k) = some x.2 := by simp [atKey, List.find?_cons, hx]
      have a2 : lookD (q :: ds) k = some q.2 := by
        show (if PyData.eqv q.1 k = true then some q.2 else lookD ds k) = _
        rw [ee, decide_eq_true hx, if_pos rfl]
      rw [a1, a2]
      exact ⟨fun p e => by cases e; exact ⟨_, v, rfl, hv, h2⟩, fun e => by cases e⟩
    · have a1 : atKey (x :: xs) (nkOf k) = atKey xs (nkOf k) := by simp [atKey, List.find?_cons, hx]
      have a2 : lookD (q :: ds) k = lookD ds k := by
        show (if PyData.eqv q.1 k = true then some q.2 else lookD ds k) = _
        rw [ee, decide_eq_false hx, if_neg (by decide)]
      rw [a1, a2]
      exact ⟨ih1, ih2⟩
theorem look_any {ds : List (D × D)} {k : D} : (ds.any fun p => PyData.eqv p.1 k) = (lookD ds k).isSome := by
  induction ds with
  | nil => rfl
  | cons p ds ih =>
    rw [List.any_cons, ih]
    show _ = (if PyData.eqv p.1 k = true then some p.2 else lookD ds k).isSome
    cases PyData.eqv p.1 k <;> simp
theorem RelN.some_eq {k : D} (hk : tkOk k = true) {xs : List (NestedKey × Addr × Value)} {ds : List (D × D)} (r : RelN z m F H xs ds) : (atKey xs (nkOf k)).isSome = (lookD ds k).isSome := by
  obtain ⟨h1, h2⟩ := RelN.look hk r
  cases e : atKey xs (nkOf k) with
  | none => rw [h2 e]; rfl
  | some p =>
    obtain ⟨d, v, e', _⟩ := h1 p e
    rw [e']
    rfl
theorem RelN.repl {k : D} (hk : tkOk k = true) {v : V} {u : Value} {d : D} (hv : RelV v u) (r : Rep z m F H v d) : ∀ {xs : List (NestedKey × Addr × Value)} {ds : List (D × D)}, RelN z m F H xs ds → RelN z m F H (xs.map (putAt (nkOf k) u)) (ds.map fun p => if PyData.eqv p.1 k then (p.1, d) else p)
  | _, _, .nil => .nil
  | _, _, .cons (a := x) (b := q) h t => by
    obtain ⟨h0, e1, h1, v', hv', h2⟩ := h
    have ee : PyData.eqv q.1 k = decide (x.1 = nkOf k) := by rw [eqv_tk h0 hk, e1]
    rw [List.map_cons, List.map_cons]
    refine .cons ?_ (RelN.repl hk hv r t)
    unfold putAt
    by_cases hx : x.1 = nkOf k
    · rw [if_pos hx, ee, decide_eq_true hx, if_pos rfl]
      exact ⟨h0, e1, h1, v, hv, r⟩
    · rw [if_neg hx, ee, decide_eq_false hx, if_neg (by decide)]
      exact ⟨h0, e1, h1, v', hv', h2⟩
theorem RelN.put {k : D} (hk : tkOk k = true) {a : Addr} {v : V} {u : Value} {d : D} (ha : Rep z m F H (.ref a) k) (hv : RelV v u) (r : Rep z m F H v d) {xs : List (NestedKey × Addr × Value)} {ds : List (D × D)} (h : RelN z m F H xs ds) : RelN z m F H (storedH xs (nkOf k) a u) (putD k d ds) := by
  unfold storedH putD
  rw [look_any, ← h.some_eq hk]
  by_cases q : (atKey xs (nkOf k)).isSome = true
  · rw [if_pos q, if_pos q]
    exact RelN.repl hk hv r h
  · rw [if_neg q, if_neg q]
    exact Paired.snoc h ⟨hk, rfl, ha, v, hv, r⟩
theorem RelN.drop {k : D} (hk : tkOk k = true) : ∀ {xs : List (NestedKey × Addr × Value)} {ds : List (D × D)}, RelN z m F H xs ds → RelN z m F H (withoutH xs (nkOf k)) (dropD k ds)
  | _, _, .nil => .nil
  | _, _, .cons (a := x) (b := q) h t => by
    have ih := RelN.drop hk t
    obtain ⟨h0, e1, h1⟩ := h
    have ee : PyData.eqv q.1 k = decide (x.1 = nkOf k) := by rw [eqv_tk h0 hk, e1]
    unfold withoutH dropD at ih ⊢
    rw [List.filter_cons, List.filter_cons, ee]
    by_cases hx : x.1 = nkOf k
    · simp only [hx, ne_eq, not_true, decide_false, decide_true, Bool.not_true, Bool.false_eq_true, if_false]
      exact ih
    · simp only [hx, ne_eq, not_false_iff, decide_false, decide_true, Bool.not_false, if_true]
      exact .cons ⟨h0, e1, h1⟩ ih
end
end Ev

set_option Elab.async false
set_option linter.all false
set_option maxRecDepth 100000
set_option autoImplicit false
namespace Ev
open PySem PySem.Spec PyProof.Rows L2
section
variable {prog : Program} {w : World} {K : Type} [DecidableEq K] {knd : HeapKind prog w K} {A : Around} {E : Value → Shared → Prop} {s : Shared}
theorem truthy_dictH {d : Addr} {xs : List (K × Addr × Value)} {Q : Bool → Shared → Prop} (hd : (d == sysModules) = false) (hm : s.heap.DictOfH knd d xs) (hfit : (xs.length : Int) < 2 ^ 63)
    (h : Q (!xs.isEmpty) { s with toks := s.toks + 1 + 1 }) : wpAny (model prog w) A (truthy (.ref d)) Q E s := by
  have hne : ((xs.length : Int) != 0) = !xs.isEmpty := by cases xs <;> simp <;> omega
  have key : wpAny (model prog w) A (runValue (.builtin "len" ⟨[.ref d], []⟩)) (fun r s' => r = .int xs.length (s.toks + 1) ∧ Q (!xs.isEmpty) s') E s := by
    refine wpAny_runValue (codeAny_builtin entry_len ?_)
    rw [Around.under_plainId plain_len _]
    exact wpAny_mono (wpAny_len_body_dictH (Q := fun r s' => r = .int xs.length (s.toks + 1) ∧ Q (!xs.isEmpty) s') hd hm hfit ⟨rfl, h⟩)
      (fun fin s' hq => by obtain ⟨r, rfl, hq⟩ := hq; exact hq) fun _ _ e => e
  unfold truthy
  first
    | refine wpAny_bind (wpAny_callSpecial?_none (name := Str.ofString "__bool__") hm.typeIs noBool_dict ?_)
    | refine wpAny_bind (wpAny_pure (wpAny_bind (wpAny_callSpecial?_none (name := Str.ofString "__bool__") hm.typeIs noBool_dict ?_)))
  first
    | refine wpAny_bind (wpAny_specialOf (name := Str.ofString "__len__") hm.typeIs F.slot_dict_len.lookup ?_)
    | refine wpAny_bind (wpAny_pure (wpAny_bind (wpAny_specialOf (name := Str.ofString "__len__") hm.typeIs F.slot_dict_len.lookup ?_)))
  first
    | exact wpAny_bind (wpAny_mono key (fun r s' hq => by obtain ⟨rfl, hq⟩ := hq; exact wpAny_pure (hne ▸ hq)) fun _ _ e => e)
    | exact wpAny_bind (wpAny_pure (wpAny_bind (wpAny_mono key (fun r s' hq => by obtain ⟨rfl, hq⟩ := hq; exact wpAny_pure (hne ▸ hq)) fun _ _ e => e)))
end
section
variable {X : Cx} {z : Zt} [KEq X z] {m : Mu} {F : Fz} {pins : List (Addr × Obj)} {σ : L2.St} {H : Hp} {s : Shared} {E : Value → Shared → Prop} {ds : List (D × D)}
theorem roomN (hu : X.A.units + 10 < cLine) : (nestedKind X.prog X.w).room X.A.in1 := by
  show X.A.units + 1 + 8 < cLine
  omega
theorem n_in (hu : X.A.units + 10 < cLine) (hw : z.wd = X.w) (I : Inv X pins σ H s) {x y : V} {v u : Value} {k : D} (rx : RelV x v) (ry : RelV y u) (hx : RepR z m F H x k) (hy : RepR z m F H y (.dict ds)) (hk : tkOk k = true) (hd : (ds.all fun p => tkOk p.1) = true) {Q : Value → Shared → Prop} :
    ((∀ s', Inv X pins σ H s' → Q (.bool (lookD ds k).isSome) s') → wpAny (model X.prog X.w) X.A (compareOp .In v u) Q E s) ∧ ((∀ s', Inv X pins σ H s' → Q (.bool (!(lookD ds k).isSome)) s') → wpAny (model X.prog X.w) X.A (compareOp .NotIn v u) Q E s) := by
  obtain ⟨a, rfl, is, _⟩ := hx.tk (hokK I) hk
  obtain ⟨d, xs, rfl, dv⟩ := hy.view hd (hokK I) hw
  cases rx
  cases ry
  have e := dv.rel.some_eq hk
  refine ⟨fun q => wpAny_in_heap (roomN hu) is dv.sm dv.dd ?_, fun q => wpAny_notIn_heap (roomN hu) is dv.sm dv.dd ?_⟩
  · rw [e]
    exact q _ (I.tok _)
  · rw [e]
    exact q _ (I.tok _)
theorem n_get (hu : X.A.units + 10 < cLine) (hw : z.wd = X.w) (I : Inv X pins σ H s) {x y : V} {v u : Value} {k d : D} (rx : RelV x v) (ry : RelV y u) (hx : RepR z m F H x (.dict ds)) (hy : RepR z m F H y k) (hk : tkOk k = true) (hd : (ds.all fun p => tkOk p.1) = true) (hl : lookD ds k = some d) {Q : Value → Shared → Prop}
    (q : ∀ v' w' s', Inv X pins σ H s' → RelV v' w' → Rep z m F H v' d → Q w' s') : s.TypeIs v "dict" ∧ wpAny (model X.prog X.w) X.A (getItem v u) Q E s := by
  obtain ⟨a, rfl, is, _⟩ := hy.tk (hokK I) hk
  obtain ⟨c, xs, rfl, dv⟩ := hx.view hd (hokK I) hw
  cases rx
  cases ry
  refine ⟨dv.dd.typeIs, ?_⟩
  obtain ⟨h1, h2⟩ := RelN.look hk dv.rel
  cases e : atKey xs (nkOf k) with
  | none => rw [h2 e] at hl; cases hl
  | some p =>
    obtain ⟨d', v', e1, e2, e3⟩ := h1 p e
    rw [hl] at e1
    cases e1
    exact wpAny_getItem_heap (roomN hu) is dv.dd e (q v' _ _ (I.tok _) e2 e3)
theorem n_len (hw : z.wd = X.w) (I : Inv X pins σ H s) {x : V} {v : Value} (rx : RelV x v) (hx : RepR z m F H x (.dict ds)) (hd : (ds.all fun p => tkOk p.1) = true) {Q : Value → Shared → Prop} (q : ∀ t s', Inv X pins σ H s' → Q (.int ds.length t) s') : wpAny (model X.prog X.w) X.A (call (.builtin "len") [v]) Q E s := by
  obtain ⟨c, xs, rfl, dv⟩ := hx.view hd (hokK I) hw
  cases rx
  have sz := dv.sz
  refine call_len_dictH dv.sm dv.dd (by rw [sizeLine_eq] at sz; omega) ?_
  rw [dv.rel.len]
  exact q _ _ (I.tok _)
theorem n_tru (hw : z.wd = X.w) (I : Inv X pins σ H s) {x : V} {v : Value} (rx : RelV x v) (hx : RepR z m F H x (.dict ds)) (hd : (ds.all fun p => tkOk p.1) = true) {Q : Bool → Shared → Prop} (q : ∀ s', Inv X pins σ H s' → Q (!ds.isEmpty) s') : wpAny (model X.prog X.w) X.A (truthy v) Q E s := by
  obtain ⟨c, xs, rfl, dv⟩ := hx.view hd (hokK I) hw
  cases rx
  have sz := dv.sz
  have e : xs.isEmpty = ds.isEmpty := by
    have := dv.rel.len
    cases xs <;> cases ds <;> simp at this <;> rfl
  refine truthy_dictH dv.sm dv.dd (by rw [sizeLine_eq] at sz; omega) ?_
  rw [e]
  exact q _ (I.tok _)
/-- d[k] = v on a dict of one's own -/
theorem n_put (hu : X.A.units + 10 < cLine) (hw : z.wd = X.w) (I : Inv X pins σ H s) {c : Addr} {o : HO} {y t : V} {u r : Value} {k d : D} (ry : RelV y u) (rt : RelV t r) (hc : H c = some o) (hx : RepD z m F H c o ds) (hF : ¬ F c) (hy : Rep z m F H y k) (ht : Rep z m F H t d) (hk : tkOk k = true) (hd : (ds.all fun p => tkOk p.1) = true) (hl : ds.length < sizeLine) {Q : Unit → Shared → Prop}
    (q : ∀ o' s', Inv X pins σ (upd H c o') s' → RepD z m F (upd H c o') c o' (putD k d ds) → Q () s') : wpAny (model X.prog X.w) X.A (setItem (.ref c) u r) Q E s := by
  obtain ⟨a, rfl, is, ra⟩ := RepR.tk (hokK I) (.inl hy) hk
  obtain ⟨xs, dv⟩ := hx.view hd (hokK I) hw (.inl hc)
  cases ry
  have mu : Mut (H c) := by
    rw [hc]
    cases hx <;> exact True.intro
  refine wpAny_setItem_heap (hsz := dv.sz) (roomN hu) is dv.dd fun h' dd' hs => ?_
  have rel' := dv.rel.put hk ra rt ht
  have sz' : (storedH xs (nkOf k) a r).length ≤ sizeLine := by
    have h1 := storedH_length xs (nkOf k) a r
    have h2 := dv.rel.len
    omega
  obtain ⟨o', ro, ok'⟩ := rel'.obj hw sz' dv.sm dd'
  have he : ∃ b, h'.get? c = some b := let ⟨b, _, _, hb, _⟩ := dd'; ⟨b, hb⟩
  exact q o' _ (d_write I mu hs he (ok' _)) (ro.mono (Kp.updA hF) (fun _ h => h) (fun _ _ h => h))
end
end Ev

set_option Elab.async false
set_option Elab.async false
set_option linter.all false
set_option maxRecDepth 100000
set_option autoImplicit false
namespace Ev
open PySem PySem.Spec PyProof.Rows L2
section
variable {X : Cx} {pins : List (Addr × Obj)} {σ : L2.St} {H : Hp} {s : Shared} {d : Addr} {o : Obj} {wd : World}
theorem Inv.frzN {kvs : List (NestedKey × Addr × V)} (I : Inv X pins σ H s) (h : H d = some (.frz o (DN wd d kvs))) :
    (d == sysModules) = false ∧ s.heap.get? d = some o ∧ o.ExactDict ∧ kvs.length ≤ sizeLine ∧ ∃ (es : Array DictEntry) (ep : Nat), o.data = .dict es ep ∧ es.size = kvs.length ∧
      ∀ (i : Nat) (k : NestedKey) (q : Addr) (v : V), kvs[i]? = some (k, q, v) → ∃ en : DictEntry, es[i]? = some en ∧ en.key = .ref q := by
  obtain ⟨hd, ⟨xs, pr, sz, sm, o', es, ep, e1, e2, e3, e4, e6⟩, _, _⟩ := (show ObjOk X.prog X.w H s.heap d (.frz o (DN wd d kvs)) from I.hok d _ h)
  rw [hd] at e1
  cases e1
  have hl : kvs.length = xs.length := Paired.length pr
  have hs : es.size = xs.length := by
    have := congrArg List.length e4
    simpa using this
  refine ⟨sm, hd, e2, sz, es, ep, e3, hs.trans hl.symm, fun i k q v e => ?_⟩
  obtain ⟨b, hb, g1, g2, _⟩ := L2.paired_get pr e
  have : es.toList[i]? = some (entN wd b) := by rw [e4, List.getElem?_map, hb]; rfl
  refine ⟨entN wd b, by simpa using this, ?_⟩
  show Value.ref b.2.1 = _
  rw [← g2]
end
/-- the keys of the locked dict at d, each its own tuple -/
def Itn (d : Addr) (o : Obj) (wd : World) (kvs : List (NestedKey × Addr × V)) : It :=
  ⟨fun i H => H d = some (.frz o (DN wd d kvs)) ∧ i < kvs.length, fun i H x H' => H' = H ∧ ∃ k q v, kvs[i]? = some (k, q, v) ∧ x = .ref q, fun i H => H d = some (.frz o (DN wd d kvs)) ∧ kvs.length ≤ i⟩
section
variable {P : Program} {w wd : World} {K : PySem.W.Frag} {tg : Expr} {d : Addr} {o : Obj} {es : Array DictEntry} {ep : Nat}
theorem turn_keysN {kvs : List (NestedKey × Addr × V)} (it : Addr) (hod : o.data = .dict es ep) : Turn P w K tg (Itn d o wd kvs) [it] it (fun i h => h.IsKeyIter it d i kvs.length ep) where
  mem := by simp
  obj := fun i h st b hb => by
    have e : b = it := by simpa using hb
    subst e
    obtain ⟨oi, e, c, dd⟩ := st
    exact ⟨oi, e, fun v z => by rw [dd] at z; cases z⟩
  keep := fun i h h' st k => st.at fun oi e => k it (by simp) oi e
  item := by
    intro X hP hw hK hc i pins s σ H E I hf st hg
    subst hP hw hK
    obtain ⟨hd, hi⟩ := hg
    obtain ⟨f0, f1, f2, f3, f4, f5⟩ := hf it (by simp)
    obtain ⟨hs, hgd, hx, _, es', ep', hdt, hsz, ent⟩ := Inv.frzN I hd
    obtain ⟨rfl, rfl⟩ := dict_ep hod hdt
    obtain ⟨⟨k, q, v⟩, hkv⟩ : ∃ p, kvs[i]? = some p := ⟨kvs[i], List.getElem?_eq_getElem hi⟩
    obtain ⟨en, hen, hkey⟩ := ent i k q v hkv
    refine next_key_item st hgd hdt hsz hen fun h' st' sb => ?_
    have I1 : Inv X pins σ H { s with heap := h' } := I.turned (t' := s.toks) (fun b ob hb e => (sb.2 b hb).trans e) f0 f1 f3 f4 f5
    obtain ⟨oi, e, c, dd⟩ := id st'
    exact ⟨en.key, rfl, go_of (s := { s with heap := h' }) e c dd (by decide) ⟨.ref q, H, I1, hkey, ⟨rfl, k, q, v, hkv, rfl⟩, st', fun b hb => (hf b hb).1⟩⟩
  done := by
    intro X hP hw hK hc i pins s σ H E I hf st hg
    subst hP hw hK
    obtain ⟨hd, hi⟩ := hg
    obtain ⟨f0, f1, f2, f3, f4, f5⟩ := hf it (by simp)
    obtain ⟨hs, hgd, hx, _, es', ep', hdt, hsz, ent⟩ := Inv.frzN I hd
    obtain ⟨rfl, rfl⟩ := dict_ep hod hdt
    exact next_key_end (I.ok.hd hc) st hgd hdt hsz hi fun h' eb => ⟨rfl, I.turned (t' := s.toks) (fun b ob hb e => eb b ob hb e) f0 f1 f3 f4 f5⟩
  self := fun A i s Q E st h => by
    refine wpAny_pyIter_slot st.typeIs F.slot_dict_keyiterator_iter (wpAny_call_entry F.slot_dict_keyiterator_iter st.typeIs F.entry_dict_keyiterator_iter ?_ (F.args_dict_keyiterator_iter_1 _))
    show wpAny _ _ (PySem.ret (.ref it)) _ _ s
    exact wpAny_pure ⟨_, rfl, "dict_keyiterator", _, st.typeIs, F.slot_dict_keyiterator_next.lookup, h⟩
end
section
variable {z : Zt} {m : Mu} {F : Fz} {H : Hp}
theorem RepKN.len : ∀ {ks : List (NestedKey × Addr × V)} {ds : List (D × D)}, RepKN z m F H ks ds → ks.length = ds.length
  | _, _, .nil => rfl
  | _, _, .cons _ _ _ t => by rw [List.length_cons, List.length_cons, RepKN.len t]
theorem RepKN.keyAt : ∀ {ks : List (NestedKey × Addr × V)} {ds : List (D × D)}, RepKN z m F H ks ds → ∀ {i : Nat} {p : D × D}, ds[i]? = some p → ∃ q v, ks[i]? = some (nkOf p.1, q, v) ∧ Rep z m F H (.ref q) p.1
  | _, _, .nil, i, p, e => by simp at e
  | _, _, .cons (a := a) (k := k) (v := v) h0 h1 h2 t, 0, p, e => by
    cases e
    exact ⟨a, v, rfl, h1⟩
  | _, _, .cons h0 h1 h2 t, i + 1, p, e => by
    obtain ⟨q, v, e1, e2⟩ := RepKN.keyAt t (i := i) (p := p) (by simpa using e)
    exact ⟨q, v, by simpa using e1, e2⟩
theorem RepKV.lenV : ∀ {ks : List (Key × V)} {ds : List (D × D)}, RepKV z m F H ks ds → ks.length = ds.length
  | _, _, .nil => rfl
  | _, _, .cons _ t => by rw [List.length_cons, List.length_cons, RepKV.lenV t]
theorem RepKV.keyAt : ∀ {ks : List (Key × V)} {ds : List (D × D)}, RepKV z m F H ks ds → ∀ {i : Nat} {p : D × D}, ds[i]? = some p → ∃ k v, ks[i]? = some (k, v) ∧ Rep z m F H (kV k) p.1
  | _, _, .nil, i, p, e => by simp at e
  | _, _, .cons (k := k) (v := v) h1 t, 0, p, e => by
    cases e
    refine ⟨k, v, rfl, ?_⟩
    cases k with
    | inl i => exact .int i
    | inr x => exact .str x
  | _, _, .cons h1 t, i + 1, p, e => by
    obtain ⟨k, v, e1, e2⟩ := RepKV.keyAt t (i := i) (p := p) (by simpa using e)
    exact ⟨k, v, by simpa using e1, e2⟩
end
end Ev

set_option Elab.async false
set_option linter.all false
set_option maxRecDepth 100000
set_option autoImplicit false
namespace Ev
open PySem PySem.Spec PyProof.Rows L2

theorem keyOk_key {d : D} (h : keyOk d = true) : ∃ k : Key, d = keyD k := by
  cases d with
  | int i => exact ⟨.inl i, rfl⟩
  | str x => exact ⟨.inr x, rfl⟩
  | _ => simp [keyOk] at h
theorem eqv_key (a c : Key) : PyData.eqv (keyD a) (keyD c) = decide (a = c) := by
  cases a with
  | inl i =>
    cases c with
    | inl j => rw [key_ll]; simp [keyD, PyData.eqv]
    | inr y => rw [key_lr]; simp [keyD, PyData.eqv]
  | inr x =>
    cases c with
    | inl j => rw [key_rl]; simp [keyD, PyData.eqv]
    | inr y =>
      rw [key_rr]
      simp only [keyD, PyData.eqv]
      by_cases e : x = y
      · subst e; simp
      · rw [decide_eq_false e]; exact beq_eq_false_iff_ne.mpr e
section
variable {z : Zt} {m : Mu} {F : Fz} {H : Hp}
def RepO (z : Zt) (m : Mu) (F : Fz) (H : Hp) : Option V → Option D → Prop
  | some v, some d => Rep z m F H v d
  | none, none => True
  | _, _ => False
theorem Rep.key {k : Key} : Rep z m F H (kV k) (keyD k) := by
  cases k with
  | inl i => exact .int i
  | inr x => exact .str x
theorem RepR.key {k : Key} {v : V} (h : RepR z m F H v (keyD k)) : v = kV k := by
  cases k with
  | inl i => exact h.int
  | inr x => exact h.str
theorem RepKV.look (k : Key) : ∀ {ks : List (Key × V)} {ds : List (D × D)}, RepKV z m F H ks ds → RepO z m F H (valV ks k) (lookD ds (keyD k))
  | _, _, .nil => True.intro
  | _, _, .cons (k := k') h t => by
    by_cases e : k' = k
    · rw [valV_pos (p := (k', _)) e]
      unfold lookD
      rw [eqv_key, decide_eq_true e, if_pos rfl]
      exact h
    · rw [valV_neg (p := (k', _)) e]
      unfold lookD
      rw [eqv_key, decide_eq_false e, if_neg Bool.false_ne_true]
      exact RepKV.look k t
theorem RepO.some_eq {o : Option V} {d : Option D} (h : RepO z m F H o d) : o.isSome = d.isSome := by
  cases o <;> cases d <;> first | rfl | exact h.elim
theorem RepKV.length : ∀ {ks : List (Key × V)} {ds : List (D × D)}, RepKV z m F H ks ds → ks.length = ds.length
  | _, _, .nil => rfl
  | _, _, .cons _ t => by rw [List.length_cons, List.length_cons, RepKV.length t]
theorem RepKV.keys : ∀ {ks : List (Key × V)} {ds : List (D × D)}, RepKV z m F H ks ds → ds.map (·.1) = ks.map fun p => keyD p.1
  | _, _, .nil => rfl
  | _, _, .cons _ t => by
    rw [List.map_cons, List.map_cons, RepKV.keys t]
theorem RepKV.append : ∀ {ks ls : List (Key × V)} {ds es : List (D × D)}, RepKV z m F H ks ds → RepKV z m F H ls es → RepKV z m F H (ks ++ ls) (ds ++ es)
  | _, _, _, _, .nil, h => h
  | _, _, _, _, .cons h t, h' => .cons h (RepKV.append t h')
theorem RepKV.any (k : Key) : ∀ {ks : List (Key × V)} {ds : List (D × D)}, RepKV z m F H ks ds → (ks.any fun kv => decide (kv.1 = k)) = ds.any fun p => PyData.eqv p.1 (keyD k)
  | _, _, .nil => rfl
  | _, _, .cons (k := k') h t => by
    rw [List.any_cons, List.any_cons, RepKV.any k t, eqv_key]
theorem RepKV.repl (k : Key) {v : V} {d : D} (r : Rep z m F H v d) : ∀ {ks : List (Key × V)} {ds : List (D × D)}, RepKV z m F H ks ds →
    RepKV z m F H (ks.map fun kv => if kv.1 = k then (kv.1, v) else kv) (ds.map fun p => if PyData.eqv p.1 (keyD k) then (p.1, d) else p)
  | _, _, .nil => .nil
  | _, _, .cons (k := k') h t => by
    rw [List.map_cons, List.map_cons]
    by_cases e : k' = k
    · rw [if_pos e, if_pos (by rw [eqv_key, decide_eq_true e])]
      exact .cons r (RepKV.repl k r t)
    · rw [if_neg e, if_neg (by rw [eqv_key, decide_eq_false e]; exact Bool.false_ne_true)]
      exact .cons h (RepKV.repl k r t)
theorem RepKV.put (k : Key) {v : V} {d : D} (r : Rep z m F H v d) {ks : List (Key × V)} {ds : List (D × D)} (h : RepKV z m F H ks ds) : RepKV z m F H (putK ks k v) (putD (keyD k) d ds) := by
  unfold putK putD
  rw [h.any k]
  split
  · exact h.repl k r
  · exact h.append (.cons r .nil)
end

section
variable {X : Cx} {b : Bx} [KEq X b.z]
theorem signD_some {x : D} {g : Nat} (h : signD x = some g) : x = .str ⟨#[g]⟩ := by
  unfold signD at h
  split at h
  · rename_i z
    split at h
    · rename_i c q
      cases h
      obtain ⟨⟨l⟩⟩ := z
      cases (show l = [g] from q)
      rfl
    · cases h
  · cases h
theorem in_core (hu : X.A.units + 65 < cLine) (hw : b.z.wd = X.w) {pins : List (Addr × Obj)} {s : Shared} {σ : L2.St} {H : Hp} {x y : V} {v u : Value} {Q : Value → Shared → Prop} {m : Mu} {F : Fz} {dx dy : D} {c : Bool} (I : Inv X pins σ H s) (rx : RelV x v) (ry : RelV y u)
    (hx : RepR b.z m F H x dx) (hy : RepR b.z m F H y dy) (e : inD dx dy = some c) :
    ((∀ s', Inv X pins σ H s' → Q (.bool c) s') → wpAny (model X.prog X.w) X.A (compareOp .In v u) Q X.xe s) ∧ ((∀ s', Inv X pins σ H s' → Q (.bool (!c)) s') → wpAny (model X.prog X.w) X.A (compareOp .NotIn v u) Q X.xe s) := by
  unfold inD at e
  split at e
  · split at e
    · rename_i hm
      simp only [Bool.and_eq_true] at hm
      cases e
      obtain ⟨as, r1⟩ := Dp.reads I dx x v (hx.dp KEq.eq hm.1) rx
      obtain ⟨bs, r2⟩ := Dp.reads I _ y u (hy.dp KEq.eq hm.2) ry
      exact ⟨fun q => SeqAt.in_list_reads r2 r1 (SeqAt.canLay_of_shaped hm.2) (SeqAt.canLay_of_shaped hm.1) (room_in_shaped hm.1 hu) (q _ I), fun q => SeqAt.notIn_list_reads r2 r1 (SeqAt.canLay_of_shaped hm.2) (SeqAt.canLay_of_shaped hm.1) (room_in_shaped hm.1 hu) (q _ I)⟩
    · cases e
  · split at e
    · rename_i hm
      simp only [Bool.and_eq_true] at hm
      cases e
      obtain ⟨as, r1⟩ := Dp.reads I dx x v (hx.dp KEq.eq hm.1) rx
      obtain ⟨bs, r2⟩ := Dp.reads I _ y u (hy.dp KEq.eq hm.2) ry
      exact ⟨fun q => SeqAt.in_tuple_reads r2 r1 (SeqAt.canLay_of_shaped hm.2) (SeqAt.canLay_of_shaped hm.1) (room_in_shaped hm.1 hu) (q _ I), fun q => SeqAt.notIn_tuple_reads r2 r1 (SeqAt.canLay_of_shaped hm.2) (SeqAt.canLay_of_shaped hm.1) (room_in_shaped hm.1 hu) (q _ I)⟩
    · cases e
  · split at e
    · rename_i hm
      simp only [kyOk, Bool.or_eq_true, Bool.and_eq_true] at hm
      cases e
      rcases hm with hm | hm
      · obtain ⟨k, rfl⟩ := keyOk_key hm.1
        have ex := hx.key
        subst ex
        obtain ⟨a, ks, rfl, hr, hk⟩ := hy.dict hm.2
        cases ry
        have hs := (hk.look k).some_eq
        refine ⟨fun q => d_in (o := valV ks k) (by omega) I (.inl ⟨ks, k, hr, rfl, rfl⟩) rx fun s' I' => ?_, fun q => d_notIn (o := valV ks k) (by omega) I (.inl ⟨ks, k, hr, rfl, rfl⟩) rx fun s' I' => ?_⟩
        · rw [hs]; exact q s' I'
        · rw [hs]; exact q s' I'
      · exact n_in (by omega) hw I rx ry hx hy hm.1 hm.2
    · cases e
  · obtain ⟨g, e1, e2⟩ := Option.map_eq_some_iff.mp e
    have e3 := signD_some e1
    subst e3
    have ex := hx.str
    have ey := hy.str
    subst ex
    subst ey
    obtain ⟨t, rfl⟩ := rx
    obtain ⟨t', rfl⟩ := ry
    refine ⟨fun q => PyProof.Rows.in_str ?_, fun q => PyProof.Rows.notIn_str ?_⟩
    · rw [PySem.StrLaws.found_one, e2]
      exact q _ I
    · rw [PySem.StrLaws.found_one, e2]
      exact q _ I
  · cases e
theorem od_in (hu : X.A.units + 65 < cLine) (hw : b.z.wd = X.w) : OpR X (compareOp .In) (rOp b fun x y => (inD x y).map .bool) := by
  intro pins s σ H x y v u Q I rx ry ⟨m, F, w, dx, dy, wf, hx, hy, p⟩
  obtain ⟨d, e, p⟩ := p.lift1
  obtain ⟨c, e1, rfl⟩ := Option.map_eq_some_iff.mp e
  exact (in_core hu hw I rx ry hx hy e1).1 fun s' I' => ⟨.bl c, H, I', rfl, p.here wf (.bl _)⟩
theorem od_notIn (hu : X.A.units + 65 < cLine) (hw : b.z.wd = X.w) : OpR X (compareOp .NotIn) (rOp b fun x y => (inD x y).map fun c => .bool (!c)) := by
  intro pins s σ H x y v u Q I rx ry ⟨m, F, w, dx, dy, wf, hx, hy, p⟩
  obtain ⟨d, e, p⟩ := p.lift1
  obtain ⟨c, e1, rfl⟩ := Option.map_eq_some_iff.mp e
  exact (in_core hu hw I rx ry hx hy e1).2 fun s' I' => ⟨.bl (!c), H, I', rfl, p.here wf (.bl _)⟩
end

theorem insD_perm (x : D) : ∀ l, (insD x l).Perm (x :: l)
  | [] => .refl _
  | y :: ys => by
    unfold insD
    split
    · exact ((insD_perm x ys).cons y).trans (.swap _ _ _)
    · exact .refl _
theorem sortD_perm : ∀ l, (sortD l).Perm l
  | [] => .refl _
  | x :: xs => by
    unfold sortD
    exact (insD_perm x _).trans ((sortD_perm xs).cons x)
abbrev leS (x y : D) : Bool := PySem.W.dataLe false (fun d : D => d) x y
theorem leS_eq (x y : D) : leS x y = !PySem.W.dataLt y x := rfl
theorem leS_total : PySem.W.TotalLe leS := PySem.W.sortLe_total _ _ _
theorem insD_sorted (x : D) : ∀ l : List D, l.Pairwise (fun a c => leS a c = true) → (insD x l).Pairwise (fun a c => leS a c = true)
  | [], _ => by unfold insD; exact List.pairwise_singleton _ _
  | y :: ys, h => by
    have hy := (List.pairwise_cons.mp h).1
    have ht := (List.pairwise_cons.mp h).2
    unfold insD
    split
    · rename_i hlt
      refine List.pairwise_cons.mpr ⟨fun c hc => ?_, insD_sorted x ys ht⟩
      rcases List.mem_cons.mp ((insD_perm x ys).mem_iff.mp hc) with e | hc
      · subst e
        rcases leS_total.total y c with q | q
        · exact q
        · rw [leS_eq, hlt] at q; cases q
      · exact hy c hc
    · rename_i hlt
      have hxy : leS x y = true := by rw [leS_eq]; simpa using hlt
      refine List.pairwise_cons.mpr ⟨fun c hc => ?_, h⟩
      rcases List.mem_cons.mp hc with e | hc
      · subst e; exact hxy
      · exact leS_total.trans x y c hxy (hy c hc)
theorem sortD_sorted : ∀ l : List D, (sortD l).Pairwise (fun a c => leS a c = true)
  | [] => .nil
  | x :: xs => by unfold sortD; exact insD_sorted x _ (sortD_sorted xs)
theorem insD_filter (c x : D) : ∀ l : List D, (insD x l).filter (PySem.W.sameRank leS c) = (x :: l).filter (PySem.W.sameRank leS c)
  | [] => rfl
  | y :: ys => by
    unfold insD
    split
    · rename_i hlt
      rw [List.filter_cons, insD_filter c x ys]
      -- x and y are not both of c's rank
      by_cases hx : PySem.W.sameRank leS c x = true
      · by_cases hy : PySem.W.sameRank leS c y = true
        · exfalso
          unfold PySem.W.sameRank at hx hy
          rw [Bool.and_eq_true] at hx hy
          have q : leS x y = true := leS_total.trans x c y hx.2 hy.1
          rw [leS_eq, hlt] at q
          cases q
        · rw [if_neg hy, List.filter_cons, List.filter_cons, if_pos hx, List.filter_cons, if_neg hy, if_pos hx]
      · rw [List.filter_cons, if_neg hx, List.filter_cons, if_neg hx, List.filter_cons]
    · rfl
theorem sortD_filter (c : D) : ∀ l : List D, (sortD l).filter (PySem.W.sameRank leS c) = l.filter (PySem.W.sameRank leS c)
  | [] => rfl
  | x :: xs => by
    unfold sortD
    rw [insD_filter, List.filter_cons, List.filter_cons, sortD_filter c xs]
theorem sortD_merge (l : List D) : sortD l = l.mergeSort leS := PySem.W.sort_unique leS_total (sortD_sorted l) fun c => sortD_filter c l
theorem sortD_length (l : List D) : (sortD l).length = l.length := (sortD_perm l).length_eq

/-- pairs of a value and its datum -/
theorem RepAll.pairs {z : Zt} {m : Mu} {F : Fz} {H : Hp} : ∀ {vs : List V} {ds : List D}, RepAll z m F H vs ds → ∃ ps : List (V × D), ps.map (·.1) = vs ∧ ps.map (·.2) = ds ∧ ∀ p ∈ ps, Rep z m F H p.1 p.2
  | _, _, .nil => ⟨[], rfl, rfl, fun _ h => nomatch h⟩
  | _, _, .cons (v := v) (d := d) h t => by
    obtain ⟨ps, e1, e2, e3⟩ := RepAll.pairs t
    refine ⟨(v, d) :: ps, by rw [List.map_cons, e1], by rw [List.map_cons, e2], fun p hp => ?_⟩
    rcases List.mem_cons.mp hp with e | hp
    · subst e; exact h
    · exact e3 p hp
theorem RepAll.of_pairs {z : Zt} {m : Mu} {F : Fz} {H : Hp} : ∀ {ps : List (V × D)}, (∀ p ∈ ps, Rep z m F H p.1 p.2) → RepAll z m F H (ps.map (·.1)) (ps.map (·.2))
  | [], _ => .nil
  | p :: ps, h => .cons (h p List.mem_cons_self) (RepAll.of_pairs fun q hq => h q (List.mem_cons_of_mem _ hq))
theorem vals_each : ∀ {ps : List (V × D)} {us : List Value}, Vals (ps.map (·.1)) us → PySem.W.EachIs (fun u (p : V × D) => RelV p.1 u) us ps
  | [], [], _ => .nil
  | [], _ :: _, h => by cases h
  | _ :: _, [], h => by cases h
  | p :: ps, u :: us, h => by
    cases h with
    | cons r t => exact .cons r (vals_each t)
theorem each_vals : ∀ {ps : List (V × D)} {us : List Value}, PySem.W.EachIs (fun u (p : V × D) => RelV p.1 u) us ps → Vals (ps.map (·.1)) us
  | [], [], _ => .nil
  | [], _ :: _, h => by cases h
  | _ :: _, [], h => by cases h
  | p :: ps, u :: us, h => by
    cases h with
    | cons r t => exact .cons r (each_vals t)

theorem sortable_of {ds : List D} (h : sortOk ds = true) : PySem.W.AllAlike ds ∧ SortA ds ∧ ∀ d ∈ ds, ok2 d = true := by
  unfold sortOk at h
  simp only [Bool.and_eq_true, Bool.or_eq_true, List.all_eq_true] at h
  obtain ⟨⟨h1, h2⟩, h3⟩ := h
  refine ⟨fun d hd d' hd' => h1 d hd d' hd', ?_, h3⟩
  rcases h2 with q | q
  · refine .inl fun d hd => ?_
    have := q d hd
    cases d with
    | tuple xs => exact ⟨xs, rfl⟩
    | _ => simp [isTup] at this
  · refine .inr fun d hd => ?_
    have := q d hd
    cases d with
    | none => simp [nonT] at this
    | tuple xs => simp [nonT] at this
    | _ => exact ⟨(fun e => nomatch e), (fun xs e => nomatch e)⟩

section
variable {X : Cx} {b : Bx} [KEq X b.z]
/-- a call with one argument, by data -/
def rC1 (b : Bx) (f : D → Option D) : List V → Hp → VK → Prop := fun vs H Q => ∃ m F w v d, vs = [v] ∧ Wf b.z m F w H ∧ RepR b.z m F H v d ∧ Post b m F H (lift (f d) w) (Rep b.z) Q
theorem sorted_core (hu : X.A.units + 66 < cLine) {pins : List (Addr × Obj)} {s : Shared} {σ : L2.St} {H : Hp} {Q : VK} {m : Mu} {F : Fz} {w : W} {a : Addr} {vs : List V} {ds : List D} (I : Inv X pins σ H s) (wf : Wf b.z m F w H) (ha : H a = some (.lst vs)) (hr : RepAll b.z m F H vs ds)
    (hs : sortOk ds = true) (p : Post b m F H (.ok (.list (sortD ds)) w) (Rep b.z) Q) : wpAny (model X.prog X.w) X.A (call (.builtin "sorted") [.ref a]) (EP X pins σ Q) X.xe s := by
  obtain ⟨h1, h2, h3⟩ := sortable_of hs
  obtain ⟨ps, e1, e2, e3⟩ := hr.pairs
  obtain ⟨its, rv, hl, hz⟩ := I.list (X := X) (.inl (.inl ha))
  subst e1
  subst e2
  have each := vals_each rv
  have dp : ∀ q ∈ ps, Dp X.K H q.1 q.2 := fun q hq => (e3 q hq).dp KEq.eq (SeqAt.canLay_of_shaped (h3 _ (List.mem_map.mpr ⟨q, hq, rfl⟩)))
  have er : PySem.W.EachIs (fun u (q : V × D) => ∃ as, Reads s.heap u q.2 as) its ps := by
    refine (PySem.W.each_mem each).mono fun u q ⟨ru, hq⟩ => Dp.reads I q.2 q.1 u (dp q hq) ru
  refine sorted_any (enc := fun q : V × D => q.2) hl.isList each er h1 h2 (by rw [List.length_map] at hz; exact hz) (fun q hq => ?_) fun out hlen ho => ?_
  · have hd := SeqAt.depth_of_shaped (h3 _ (List.mem_map.mpr ⟨q, hq, rfl⟩))
    omega
  · have rv' := each_vals ho
    have mp : (ps.mergeSort (PySem.W.dataLe false fun q : V × D => q.2)).map (fun q : V × D => q.2) = sortD (ps.map fun q => q.2) := by
      rw [sortD_merge]
      exact PySem.W.sort_maps (fun q : V × D => q.2) fun _ _ _ _ => rfl
    have hr' : RepAll b.z m F H ((ps.mergeSort (PySem.W.dataLe false fun q : V × D => q.2)).map (·.1)) (sortD (ps.map fun q => q.2)) := by
      rw [← mp]
      exact RepAll.of_pairs fun q hq => e3 q (List.mem_mergeSort.mp hq)
    obtain ⟨ep, he⟩ := PyProof.Rows.sortedAll_at s.heap its out.toArray
    have hn : H (s.heap.objs.size + 1) = none := I.hok.fresh (Nat.le_succ _)
    refine ⟨.ref _, upd H (s.heap.objs.size + 1) (.lst _), I.laid (t' := s.toks) (fun _ _ => PyProof.Rows.sortedAll_old) (Nat.le_succ _) ⟨?_, out, ep, rv', he⟩, rfl, p.lst wf hr' _ hn⟩
    rw [hr'.length, sortD_length, List.length_map]
    rw [List.length_map] at hz
    exact hz
mutual
theorem reads_lt {h : Heap} : ∀ {v : Value} {d : D} {as : List Addr}, Reads h v d as → ∀ b ∈ as, b < h.objs.size
  | _, _, _, .none, b, hb => by cases hb
  | _, _, _, .bool _, b, hb => by cases hb
  | _, _, _, .int _ _, b, hb => by cases hb
  | _, _, _, .str _ _, b, hb => by cases hb
  | _, _, _, .list h1 _ _ h2, b, hb => by
    rcases List.mem_cons.mp hb with e | hb
    · exact e ▸ Heap.lt_size h1
    · exact readsAll_lt h2 b hb
  | _, _, _, .tuple _ _ _ h2, b, hb => readsAll_lt h2 b hb
  | _, _, _, .dict h1 _ _ h2 h3, b, hb => by
    rcases List.mem_append.mp hb with hb | hb
    · rcases List.mem_cons.mp hb with e | hb
      · exact e ▸ Heap.lt_size h1
      · exact readsAll_lt h2 b hb
    · exact readsAll_lt h3 b hb
theorem readsAll_lt {h : Heap} : ∀ {vs : List Value} {ds : List D} {as : List Addr}, ReadsAll h vs ds as → ∀ b ∈ as, b < h.objs.size
  | _, _, _, .nil, b, hb => by cases hb
  | _, _, _, .cons h1 h2, b, hb => by
    rcases List.mem_append.mp hb with hb | hb
    · exact reads_lt h1 b hb
    · exact readsAll_lt h2 b hb
end
theorem sorted_call {prog : Program} {w : World} {A : Around} {E : Value → Shared → Prop} {s : Shared} {x : Value} {Q : Value → Shared → Prop}
    (h : wpAny (model prog w) A.in1 (collect x) (fun vs s' => ∃ h' tk, s' = { s with heap := h', toks := tk } ∧ vs.length ≤ sizeLine ∧ wpAny (model prog w) A.in1 (call (.builtin "list.sort") [.ref h'.objs.size]) (fun _ s' => Q (.ref h'.objs.size) s') E { s with heap := h'.push { cls := .type "list", data := .seq vs.toArray }, toks := tk }) E s) :
    wpAny (model prog w) A (call (.builtin "sorted") [x]) Q E s := by
  refine Calls.call_function_entry kind_sorted plain_sorted entry_sorted (args_sorted1 _) ?_
  unfold Builtin.«sorted»
  refine wpAny_bind (m := checkCount "sorted" 1 1 _) (wpAny_pure ?_)
  refine wpAny_bind (wpAny_mono h (fun vs s' ⟨h', tk, es, hz, hg⟩ => ?_) fun _ _ e => e)
  subst es
  refine wpAny_bind (wpAny_newList ?_ hz)
  refine wpAny_bind (wpAny_holding (wpAny_mono hg (fun _ s' x => ?_) fun _ _ e => e))
  exact wpAny_pure ⟨_, rfl, x⟩
theorem sort_tail (hu : X.A.units + 66 < cLine) {pins : List (Addr × Obj)} {s : Shared} {σ : L2.St} {H : Hp} {Q : VK} {m : Mu} {F : Fz} {w : W} {vs : List V} {ds : List D} {its : List Value} (I : Inv X pins σ H s) (wf : Wf b.z m F w H) (rv : Vals vs its) (hr : RepAll b.z m F H vs ds)
    (hs : sortOk ds = true) (hz : ds.length ≤ sizeLine) (p : Post b m F H (.ok (.list (sortD ds)) w) (Rep b.z) Q) :
    wpAny (model X.prog X.w) X.A.in1 (call (.builtin "list.sort") [.ref s.heap.objs.size]) (fun _ s' => EP X pins σ Q (.ref s.heap.objs.size) s') X.xe { s with heap := s.heap.push { cls := .type "list", data := .seq its.toArray } } := by
  obtain ⟨h1, h2, h3⟩ := sortable_of hs
  obtain ⟨ps, e1, e2, e3⟩ := hr.pairs
  subst e1
  subst e2
  have each := vals_each rv
  have dp : ∀ q ∈ ps, Dp X.K H q.1 q.2 := fun q hq => (e3 q hq).dp KEq.eq (SeqAt.canLay_of_shaped (h3 _ (List.mem_map.mpr ⟨q, hq, rfl⟩)))
  have hob : (s.heap.push { cls := .type "list", data := .seq its.toArray }).get? s.heap.objs.size = some (seqObj "list" its.toArray 0) := Heap.get?_push_size _ rfl
  have kb : ∀ c o, s.heap.get? c = some o → (s.heap.push { cls := .type "list", data := .seq its.toArray }).get? c = some o := fun c o e => Heap.get?_push_of_some _ e
  have er : PySem.W.EachIs (fun u (q : V × D) => ∃ as, Reads (s.heap.push { cls := .type "list", data := .seq its.toArray }) u q.2 as ∧ s.heap.objs.size ∉ as) its ps := by
    refine (PySem.W.each_mem each).mono fun u q ⟨ru, hq⟩ => ?_
    obtain ⟨as, r⟩ := Dp.reads I q.2 q.1 u (dp q hq) ru
    exact ⟨as, PyProof.Rows.Reads.keeps kb r, fun hm => absurd (reads_lt r _ hm) (Nat.lt_irrefl _)⟩
  refine list_sort_any (s := { s with heap := s.heap.push { cls := .type "list", data := .seq its.toArray } }) (A := X.A.in1) (enc := fun q : V × D => q.2) hob each er h1 h2 (by rw [List.length_map] at hz; exact hz) (fun q hq => ?_) fun out hlen ho => ?_
  · have hd := SeqAt.depth_of_shaped (h3 _ (List.mem_map.mpr ⟨q, hq, rfl⟩))
    show X.A.units + 1 + 1 + _ < _
    omega
  · have rv' := each_vals ho
    have mp : (ps.mergeSort (PySem.W.dataLe false fun q : V × D => q.2)).map (fun q : V × D => q.2) = sortD (ps.map fun q => q.2) := by
      rw [sortD_merge]
      exact PySem.W.sort_maps (fun q : V × D => q.2) fun _ _ _ _ => rfl
    have hr' : RepAll b.z m F H ((ps.mergeSort (PySem.W.dataLe false fun q : V × D => q.2)).map (·.1)) (sortD (ps.map fun q => q.2)) := by
      rw [← mp]
      exact RepAll.of_pairs fun q hq => e3 q (List.mem_mergeSort.mp hq)
    generalize hh2 : s.heap.push { cls := .type "list", data := .seq its.toArray } = h2 at hob kb ⊢
    have kF : ∀ c o, c ≠ s.heap.objs.size → h2.get? c = some o → (sortedHeap h2 s.heap.objs.size its (List.toArray out)).get? c = some o := fun c o hc e => (PyProof.Rows.sortedHeap_old hc (Heap.lt_size e)).trans e
    have kS : ∀ c o, s.heap.get? c = some o → (sortedHeap h2 s.heap.objs.size its (List.toArray out)).get? c = some o := fun c o e => kF c o (Nat.ne_of_lt (Heap.lt_size e)) (kb c o e)
    obtain ⟨eF, heF⟩ := PyProof.Rows.sortedHeap_at (vs := its) (out := List.toArray out) hob
    have I1 : Inv X pins σ H { s with heap := sortedHeap h2 s.heap.objs.size its (List.toArray out) } := I.kept (t' := s.toks) kS
    have hn0 : H s.heap.objs.size = none := I.hok.fresh (Nat.le_refl _)
    have hl' : (ps.mergeSort (PySem.W.dataLe false fun q : V × D => q.2)).length = ps.length := List.length_mergeSort ..
    refine ⟨.ref s.heap.objs.size, upd H s.heap.objs.size (.lst _), I1.take (h' := sortedHeap h2 s.heap.objs.size its (List.toArray out)) (t' := s.toks) (fun c ob _ e => e) (I.fpOk (Nat.le_refl _) hn0) ⟨?_, out, eF, rv', by simpa using heF⟩, rfl, p.lst wf hr' _ hn0⟩
    rw [List.length_map, hl']
    rw [List.length_map] at hz
    exact hz
theorem DV.keys {z : Zt} {m : Mu} {F : Fz} {H : Hp} {h : Heap} {P : Program} {w : World} {a : Addr} {ds : List (D × D)} {xs : List (NestedKey × Addr × Value)} {es : Array DictEntry} (rel : RelN z m F H xs ds) {acc : Array Value}
    (hacc : ItemsOf (fun i v => ∃ en : DictEntry, es[i]? = some en ∧ v = en.key) acc es.size) (g4 : es.toList.map (·.key) = xs.map fun x => Value.ref x.2.1) : ∃ vs, Vals vs acc.toList ∧ RepAll z m F H vs (ds.map (·.1)) := by
  have e : acc.toList = xs.map fun x => Value.ref x.2.1 := by
    rw [← g4]
    refine List.ext_getElem? fun i => ?_
    have hl : acc.size = es.size := hacc.1
    by_cases hi : i < es.size
    · obtain ⟨en, e1, e2⟩ := hacc.2 i acc[i] (Array.getElem?_eq_getElem (by omega))
      rw [List.getElem?_map, Array.getElem?_toList, Array.getElem?_toList, e1, Array.getElem?_eq_getElem (by omega), e2]
      rfl
    · rw [List.getElem?_map, Array.getElem?_toList, Array.getElem?_toList, Array.getElem?_eq_none (by omega), Array.getElem?_eq_none (by omega)]
      rfl
  rw [e]
  clear e g4 hacc
  induction rel with
  | nil => exact ⟨[], .nil, .nil⟩
  | cons h t ih =>
    obtain ⟨vs, r1, r2⟩ := ih
    exact ⟨_, .cons (show RelV (.ref _) (Value.ref _) from rfl) r1, .cons h.2.2.1 r2⟩
theorem cd_sorted (hc : X.calm = true) (hw : b.z.wd = X.w) (hu : X.A.units + 66 < cLine) : CallR X (.builtin "sorted") (rC1 b sortedD) := by
  intro pins s σ H xs us Q I r ⟨m, F, w, v, d, ex, wf, hr, p⟩
  subst ex
  obtain ⟨d', e, p⟩ := p.lift1
  unfold sortedD at e
  split at e
  · split at e
    · rename_i xs hs
      cases e
      obtain ⟨a, vs, rfl, h1, h2⟩ := hr.list
      rw [Vals.ref1 r]
      exact sorted_core hu I wf h1 h2 hs p
    · cases e
  · split at e
    · rename_i xs hs
      cases e
      obtain ⟨a, vs, rfl, h1, h2⟩ := hr.tuple
      rw [Vals.ref1 r]
      obtain ⟨its, rv, pl, hz⟩ := I.tuple (X := X) (h1.sq KEq.eq)
      obtain ⟨o, e1, e2, n, e3⟩ := (show s.heap.IsTuple a its.toArray from pl)
      have hl : its.length = xs.length := by rw [← rv.length, h2.length]
      have hz' : xs.length ≤ sizeLine := by rw [← h2.length]; exact hz
      refine sorted_call (wpAny_collect_seq (T := "tuple") a (.inr rfl) e1 e2 e3 (fun h' hk => ⟨h', s.toks, rfl, ?_, ?_⟩) (by simpa [hl] using hz'))
      · simpa [hl] using hz'
      · have e : its.toArray.toList = its := by simp
        rw [e]
        have I' : Inv X pins σ H { s with heap := h' } := I.kept (t' := s.toks) hk
        exact sort_tail hu I' wf rv h2 hs hz' p
    · cases e
  · split at e
    · rename_i kvs hk
      cases e
      rw [Bool.and_eq_true] at hk
      obtain ⟨a, xs, rfl, dv⟩ := hr.view hk.1 (hokK I) hw
      rw [Vals.ref1 r]
      obtain ⟨o, es, ep, g1, g2, g3, g4, g5, g6⟩ := dv.dd
      have hl := dv.rel.len
      have hes : es.size = xs.length := by
        have := congrArg List.length g4
        simpa using this
      refine sorted_call (PySem.W.kdu_collect (A := X.A.in1) (kdl_raw dv.sm g2 g3) (I.ok.hd hc) g1 (by rw [hes]; exact dv.sz) fun h' tk acc hk' hacc => ⟨h', tk, rfl, ?_, ?_⟩)
      · rw [Array.length_toList, hacc.1, hes]; exact dv.sz
      · obtain ⟨vs, rv, ra⟩ := DV.keys (h := s.heap) (P := X.prog) (w := X.w) (a := a) dv.rel hacc (by rw [g4, List.map_map]; rfl)
        have I' : Inv X pins σ H { s with heap := h', toks := tk } := I.kept (t' := tk) hk'
        exact sort_tail hu I' wf rv ra hk.2 (by rw [List.length_map, ← hl]; exact dv.sz) p
    · cases e
  · cases e
end
end Ev

set_option Elab.async false
set_option linter.all false
set_option maxRecDepth 100000
set_option autoImplicit false
namespace Ev
open PySem PySem.Spec PyProof.Rows L2

section
variable {z : Zt} {m : Mu} {F : Fz} {H : Hp}
theorem RepAll.bools : ∀ {vs : List V} {ds : List D} {bs : List Bool}, RepAll z m F H vs ds → boolsD ds = some bs → vs = bs.map V.bl
  | _, _, _, .nil, e => by
    unfold boolsD at e
    cases e; rfl
  | _, _, _, .cons (d := d) h t, e => by
    cases d with
    | bool c =>
      unfold boolsD at e
      obtain ⟨r, e1, rfl⟩ := Option.map_eq_some_iff.mp e
      rw [RepAll.bools t e1]
      cases h
      rfl
    | _ => cases e
theorem RepAll.ints : ∀ {vs : List V} {ds : List D} {ns : List Int}, RepAll z m F H vs ds → intsD ds = some ns → vs = ns.map V.int
  | _, _, _, .nil, e => by
    unfold intsD at e
    cases e; rfl
  | _, _, _, .cons (d := d) h t, e => by
    cases d with
    | int c =>
      unfold intsD at e
      obtain ⟨r, e1, rfl⟩ := Option.map_eq_some_iff.mp e
      rw [RepAll.ints t e1]
      cases h
      rfl
    | _ => cases e
end
section
variable {X : Cx} {b : Bx} [KEq X b.z]
theorem cd_len (hw : b.z.wd = X.w) : CallR X (.builtin "len") (rC1 b lenD) := by
  intro pins s σ H xs us Q I r ⟨m, F, w, v, d, ex, wf, hr, p⟩
  subst ex
  obtain ⟨d', e, p⟩ := p.lift1
  unfold lenD at e
  split at e
  · cases e
    obtain ⟨a, vs, rfl, h1, h2⟩ := hr.list
    exact call_len_seq pins s σ H _ us Q I r ⟨a, vs, rfl, .inl (.inl (.inl h1)), by rw [h2.length]; exact p.here wf (.int _)⟩
  · cases e
    obtain ⟨a, vs, rfl, h1, h2⟩ := hr.tuple
    exact call_len_seq pins s σ H _ us Q I r ⟨a, vs, rfl, .inr (h1.sq KEq.eq), by rw [h2.length]; exact p.here wf (.int _)⟩
  · split at e
    · rename_i hk
      simp only [kdOk, Bool.or_eq_true] at hk
      cases e
      rcases hk with hk | hk
      · obtain ⟨a, ks, rfl, h1, h2⟩ := hr.dict hk
        rw [Vals.ref1 r]
        exact d_len I h1 fun t s' I' => ⟨.int _, H, I', ⟨t, rfl⟩, by rw [h2.length]; exact p.here wf (.int _)⟩
      · obtain ⟨u, rfl, rx⟩ := vals1 r
        exact n_len hw I rx hr hk fun t s' I' => ⟨.int _, H, I', ⟨t, rfl⟩, p.here wf (.int _)⟩
    · cases e
  · split at e
    · rename_i hl
      cases e
      have ev := hr.str
      subst ev
      exact call_len_str pins s σ H _ us Q I r ⟨_, rfl, by rw [← lim_eq]; exact hl, p.here wf (.int _)⟩
    · cases e
  · cases e
theorem cd_all (hc : X.calm = true) : CallR X (.builtin "all") (rC1 b allD) := by
  intro pins s σ H xs us Q I r ⟨m, F, w, v, d, ex, wf, hr, p⟩
  subst ex
  obtain ⟨d', e, p⟩ := p.lift1
  unfold allD at e
  split at e
  · obtain ⟨bs, e1, rfl⟩ := Option.map_eq_some_iff.mp e
    obtain ⟨a, vs, rfl, h1, h2⟩ := hr.list
    have ev := h2.bools e1
    subst ev
    exact cr_all hc pins s σ H _ us Q I r ⟨a, bs, rfl, .inl (.inl h1), p.here wf (.bl _)⟩
  · cases e
theorem cd_any (hc : X.calm = true) : CallR X (.builtin "any") (rC1 b anyD) := by
  intro pins s σ H xs us Q I r ⟨m, F, w, v, d, ex, wf, hr, p⟩
  subst ex
  obtain ⟨d', e, p⟩ := p.lift1
  unfold anyD at e
  split at e
  · obtain ⟨bs, e1, rfl⟩ := Option.map_eq_some_iff.mp e
    obtain ⟨a, vs, rfl, h1, h2⟩ := hr.list
    have ev := h2.bools e1
    subst ev
    exact cr_any hc pins s σ H _ us Q I r ⟨a, bs, rfl, .inl (.inl h1), p.here wf (.bl _)⟩
  · cases e
theorem cd_tuple : CallR X (.type "tuple") (rC1 b tupleD) := by
  intro pins s σ H xs us Q I r ⟨m, F, w, v, d, ex, wf, hr, p⟩
  subst ex
  obtain ⟨d', e, p⟩ := p.lift1
  unfold tupleD at e
  split at e
  · cases e
    obtain ⟨a, vs, rfl, h1, h2⟩ := hr.list
    exact call_tupleN pins s σ H _ us Q I r ⟨a, vs, rfl, .inl ⟨.inl (.inl h1), p.tup wf h2⟩⟩
  · cases e
    obtain ⟨a, vs, rfl, h1, h2⟩ := hr.tuple
    exact call_tupleN pins s σ H _ us Q I r ⟨a, vs, rfl, .inr ⟨h1.sq KEq.eq, p.here wf (.tup h1 h2)⟩⟩
  · cases e
def tyN : Ty → String
  | .int => "int"
  | .bool => "bool"
  | .tuple => "tuple"
  | .str => "str"
theorem isi_ty {z : Zt} {m : Mu} {F : Fz} {H : Hp} {K : PySem.W.Frag} {v : V} {d : D} {t : Ty} {c : Bool} (hK : K = z.K) (hr : RepR z m F H v d) (e : isiD t d = some c) : ∃ tv, TyX K H v tv ∧ PySem.W.kitOne K tv (.type (tyN t)) = some c := by
  cases d with
  | none =>
    have ev := hr.non
    subst ev
    refine ⟨_, .base .non, kit_ty ?_⟩
    cases t <;> cases e <;> decide +kernel
  | bool i =>
    have ev := hr.bool
    subst ev
    refine ⟨_, .base (.bl _), kit_ty ?_⟩
    cases t <;> cases e <;> decide +kernel
  | int i =>
    have ev := hr.int
    subst ev
    refine ⟨_, .base (.int _), kit_ty ?_⟩
    cases t <;> cases e <;> decide +kernel
  | str i =>
    have ev := hr.str
    subst ev
    refine ⟨_, .base (.str _), kit_ty ?_⟩
    cases t <;> cases e <;> decide +kernel
  | list i =>
    obtain ⟨a, vs, rfl, h1, h2⟩ := hr.list
    refine ⟨_, .base (.lst h1), kit_ty ?_⟩
    cases t <;> cases e <;> decide +kernel
  | tuple i =>
    obtain ⟨a, vs, rfl, h1, h2⟩ := hr.tuple
    refine ⟨.type "tuple", ?_, kit_ty ?_⟩
    · subst hK
      rcases h1 with ⟨_, o, h, _⟩ | ⟨o, its, n, e1, e2, _⟩
      · exact .fTuple h
      · exact .kTuple e1 e2
    · cases t <;> cases e <;> decide +kernel
  | dict i => cases t <;> cases e
def rIsD (b : Bx) (t : Ty) : List V → Hp → VK → Prop := fun vs H Q => ∃ m F w v d, vs = [v, .ty (tyN t)] ∧ Wf b.z m F w H ∧ RepR b.z m F H v d ∧ Post b m F H (bnd (lift (isiD t d)) (fun c => ret (.bool c)) w) (Rep b.z) Q
theorem cd_isi {t : Ty} : CallR X (.builtin "isinstance") (rIsD b t) := by
  intro pins s σ H xs us Q I r ⟨m, F, w, v, d, ex, wf, hr, p⟩
  subst ex
  obtain ⟨c, e, p⟩ := p.lift
  obtain ⟨tv, h1, h2⟩ := isi_ty (K := X.K) KEq.eq hr e
  exact call_isi pins s σ H _ us Q I r ⟨v, .ty (tyN t), tv, .type (tyN t), c, rfl, .ty _, h1, h2, Post.here (d := .bool c) p wf (.bl _)⟩

theorem ixI_eq (n : Nat) (i : Int) : ixI n i = ixN n i := rfl
theorem tail_of {prog : Program} {w : World} {A : Around} {E : Value → Shared → Prop} {s : Shared} {value slice : Expr} {T id : String} {o i : Value} {Q : Value → Shared → Prop}
    (hl : typeLookup (.type T) "__getitem__" = pure (some (.builtin id))) (hT : s.TypeIs o T) (hs : subscripted slice false o i = operate [o, i] (getItem o i))
    (h : wpAny (model prog w) A (getItem o i) Q E s) : wpAny (model prog w) A (subscriptTail value slice o i) Q E s := by
  unfold subscriptTail
  refine wpAny_bind ?_
  rw [getitemInPython_of_ne hT.not_modules]
  refine wpAny_bind (wpAny_specialOf hT hl ?_)
  have fin : wpAny (model prog w) A (subscripted slice false o i) (fun r s₃ => wpAny (model prog w) A (letTemporaryGo value o r >>= fun _ => pure r) Q E s₃) E s := by
    rw [hs]
    exact wpAny_operating (wpAny_mono h (fun r s₃ h₃ => wpAny_bind (wpAny_letTemporaryGo (wpAny_pure h₃))) fun _ _ x => x)
  first
    | exact wpAny_pure (wpAny_bind fin)
    | exact wpAny_bind (wpAny_pure (wpAny_bind fin))
    | exact wpAny_bind fin
theorem id_ix (hu : X.A.units + 10 < cLine) (hw : b.z.wd = X.w) : IxR X (rOp b ixD) := by
  intro value slice pins s σ H x y v u Q I rx ry ⟨m, F, w, dx, dy, wf, hx, hy, p⟩ hs
  obtain ⟨d, e, pp⟩ := p.lift1
  clear p
  unfold ixD at e
  split at e
  · obtain ⟨j, e1, e2⟩ := Option.bind_eq_some_iff.mp e
    obtain ⟨a, vs, rfl, h1, h2⟩ := hx.list
    obtain ⟨v', g1, g2⟩ := h2.get e2
    have ey := hy.int
    subst ey
    exact ix_list value slice pins s σ H _ _ v u Q I rx ry ⟨a, vs, _, v', rfl, rfl, .inl (.inl h1), by unfold atI; rw [h2.length, ← ixI_eq, e1]; exact g1, pp.here wf g2⟩ hs
  · obtain ⟨j, e1, e2⟩ := Option.bind_eq_some_iff.mp e
    obtain ⟨a, vs, rfl, h1, h2⟩ := hx.tuple
    obtain ⟨v', g1, g2⟩ := h2.get e2
    have ey := hy.int
    subst ey
    exact ix_tup value slice pins s σ H _ _ v u Q I rx ry ⟨a, vs, _, v', rfl, rfl, h1.sq KEq.eq, by unfold atI; rw [h2.length, ← ixI_eq, e1]; exact g1, pp.here wf g2⟩ hs
  · split at e
    · rename_i hm
      simp only [kyOk, Bool.or_eq_true, Bool.and_eq_true] at hm
      rcases hm with hm | hm
      · obtain ⟨k, rfl⟩ := keyOk_key hm.1
        have ey := hy.key
        subst ey
        obtain ⟨a, ks, rfl, h1, h2⟩ := hx.dict hm.2
        cases rx
        have hl := h2.look k
        rw [e] at hl
        cases q : valV ks k with
        | none => rw [q] at hl; exact hl.elim
        | some v' =>
          rw [q] at hl
          have g : DGet H a (kV k) (some v') := .inl ⟨ks, k, h1, rfl, q.symm⟩
          exact tail_of PySem.F.slot_dict_getitem.lookup (dict_typeIs I g) hs (d_getItem (by omega) I g ry fun w' s' I' rw' => ⟨v', H, I', rw', pp.here wf hl⟩)
      · obtain ⟨ty, wp⟩ := n_get (by omega) hw I rx ry hx hy hm.1 hm.2 e (E := X.xe) (Q := EP X pins σ Q) fun v' w' s' I' rw' r' => ⟨v', H, I', rw', pp.here wf r'⟩
        exact tail_of PySem.F.slot_dict_getitem.lookup ty hs wp
    · cases e
  · split at e
    · rename_i hl
      obtain ⟨j, e1, e2⟩ := Option.bind_eq_some_iff.mp e
      obtain ⟨c, e3, rfl⟩ := Option.map_eq_some_iff.mp e2
      have ex := hx.str
      have ey := hy.int
      subst ex
      subst ey
      exact ix_str value slice pins s σ H _ _ v u Q I rx ry ⟨_, _, c, rfl, rfl, by rw [← lim_eq]; exact hl, by unfold atI; rw [← ixI_eq, e1]; exact e3, pp.here wf (.str _)⟩ hs
    · cases e
  · cases e
theorem slI_eq (n d : Nat) (o : Option Int) : slI n d o = HT.sIx n d o := by
  cases o with
  | none => rfl
  | some v =>
    have := HT.clip_eq v n d
    show (if v < 0 then (v + n).toNat else min v.toNat n) = _
    by_cases h : v < 0
    · rw [if_pos h] at this ⊢
      omega
    · rw [if_neg h] at this ⊢
      omega
theorem RepAll.cut {z : Zt} {m : Mu} {F : Fz} {H : Hp} {vs : List V} {ds : List D} (h : RepAll z m F H vs ds) (lo hi : Option Int) : RepAll z m F H (cutV vs lo hi) (cutD ds lo hi) := by
  unfold cutV cutD
  rw [h.length, slI_eq, slI_eq]
  exact (h.drop _).take _
theorem sd_seq : L2.SlR X (fun x lo hi H Q => ∃ m F w dx, Wf b.z m F w H ∧ RepR b.z m F H x dx ∧ Post b m F H (lift (slD dx lo hi) w) (Rep b.z) Q) := by
  intro pins s σ H x v vl vu lo hi sl Q I rx hs pl pu ⟨m, F, w, dx, wf, hx, p⟩
  obtain ⟨d, e, p⟩ := p.lift1
  unfold slD at e
  split at e
  · cases e
    obtain ⟨a, vs, rfl, h1, h2⟩ := hx.list
    exact sl_list pins s σ H _ v vl vu lo hi sl Q I rx hs pl pu ⟨a, vs, rfl, .inl (.inl h1), p.lst wf (h2.cut lo hi)⟩
  · cases e
    obtain ⟨a, vs, rfl, h1, h2⟩ := hx.tuple
    refine sl_tupN pins s σ H _ v vl vu lo hi sl Q I rx hs pl pu ⟨a, vs, rfl, h1.sq KEq.eq, fun hw => ?_, fun _ => p.tup wf (h2.cut lo hi)⟩
    have hcut := h2.cut lo hi
    have ec : cutV vs lo hi = vs := by
      unfold cutV
      rw [hw.1, hw.2, List.drop_zero, Nat.sub_zero, List.take_length]
    rw [ec] at hcut
    exact p.here wf (.tup h1 hcut)
  · split at e
    · rename_i hl
      cases e
      have ex := hx.str
      subst ex
      exact sl_str pins s σ H _ v vl vu lo hi sl Q I rx hs pl pu ⟨_, rfl, by rw [← lim_eq]; exact hl, p.here wf (.str _)⟩
    · cases e
  · cases e

theorem td_truth (hw : b.z.wd = X.w) : TruR X (fun x H Q => ∃ m F w dx, Wf b.z m F w H ∧ RepR b.z m F H x dx ∧ Post b m F H (lift (truD dx) w) EqL Q) := by
  intro pins s σ H x v Q I rx ⟨m, F, w, dx, wf, hx, p⟩
  obtain ⟨c, e, p⟩ := p.lift1
  have pp : Q c H := p m F H c (Fm.refl _ _ _) wf rfl
  clear p
  unfold truD at e
  split at e
  · cases e
    have ev := hx.non
    subst ev
    exact tru_ok pins s σ H _ v Q I rx ⟨_, rfl, pp⟩
  · cases e
    have ev := hx.bool
    subst ev
    exact tru_ok pins s σ H _ v Q I rx ⟨_, rfl, pp⟩
  · cases e
    have ev := hx.int
    subst ev
    exact tru_ok pins s σ H _ v Q I rx ⟨_, rfl, pp⟩
  · cases e
    obtain ⟨a, vs, rfl, h1, h2⟩ := hx.list
    refine tru_ok pins s σ H _ v Q I rx ⟨_, .inl ⟨vs, .inl (.inl h1), ?_⟩, pp⟩
    cases h2 <;> rfl
  · cases e
    obtain ⟨a, vs, rfl, h1, h2⟩ := hx.tuple
    refine tru_ok pins s σ H _ v Q I rx ⟨_, .inr (.inl ⟨vs, h1.sq KEq.eq, ?_⟩), pp⟩
    cases h2 <;> rfl
  · split at e
    · rename_i hk
      simp only [kdOk, Bool.or_eq_true] at hk
      cases e
      rcases hk with hk | hk
      · obtain ⟨a, ks, rfl, h1, h2⟩ := hx.dict hk
        cases rx
        refine d_truth I h1 fun s' I' => ⟨H, I', ?_⟩
        cases h2 <;> exact pp
      · exact n_tru hw I rx hx hk fun s' I' => ⟨H, I', pp⟩
    · cases e
  · cases e
end
end Ev

set_option Elab.async false
set_option linter.all false
set_option maxRecDepth 100000
set_option autoImplicit false
namespace Ev
open PySem PySem.Spec PyProof.Rows L2

section
variable {X : Cx} {b : Bx} [KEq X b.z] {cf : CF} {a c e : Expr} {ca cb cc : E} {pos : Pos}
/-- two expressions, then an operator -/
theorem op_pre {f : D → D → Option D} {σ : L2.St} {H : Hp} {Q : VK} (h : rd b (Rep b.z) (fun s => bnd (evE cf ca s) fun x => bnd (evE cf cb s) fun y => lift (f x y)) σ H Q) :
    tOp (rOp b f) (rR b (evE cf ca)) (rR b (evE cf cb)) σ H Q := by
  obtain ⟨m, F, s, w, wf, sl, p⟩ := h
  refine ⟨m, F, s, w, wf, sl, (p.bind).imp fun x H1 ⟨m1, F1, dx, w1, f1, wf1, r1, p1⟩ => ?_⟩
  refine ⟨m1, F1, s, w1, wf1, sl.fm wf f1, (p1.bind).imp fun y H2 ⟨m2, F2, dy, w2, f2, wf2, r2, p2⟩ => ?_⟩
  exact ⟨m2, F2, w2, dx, dy, wf2, wf1.rr r1 f2, r2, p2⟩
theorem se_op {op : Operator} {o : Op2} (ho : OpR X (binaryOp op) (rOp b (opD o))) (ha : PE X a (rR b (evE cf ca))) (hb : PE X c (rR b (evE cf cb))) : PE X (.BinOp a op c pos) (rE b (evE cf (.op o ca cb))) :=
  (pe_op ho ha hb).imp fun σ H Q h => op_pre (by simpa only [evE] using h)
theorem se_cmp {op : CmpOp} {o : Op2} (ho : OpR X (compareOp op) (rOp b (opD o))) (ha : PE X a (rR b (evE cf ca))) (hb : PE X c (rR b (evE cf cb))) (hm : behindInMarks op c = false) : PE X (.Compare a [op] [c] pos) (rE b (evE cf (.op o ca cb))) :=
  (pe_cmpR ho ha hb hm).imp fun σ H Q h => op_pre (by simpa only [evE] using h)
/-- from a test's end to a value's end -/
theorem Post.test {m : Mu} {F : Fz} {H : Hp} {w : W} {o : Option D} {Q : Bool → Hp → Prop} (p : Post b m F H (Ev.lift (o.bind boolD) w) EqL Q) : Post b m F H (Ev.lift o w) (Rep b.z) (fun x H' => ∃ k, x = .bl k ∧ Q k H') := by
  cases o with
  | none => exact p.elim
  | some d =>
    cases d with
    | bool k =>
      intro m' F' H' v f wf r
      cases r
      exact ⟨k, rfl, p m' F' H' k f wf rfl⟩
    | _ => exact p.elim
theorem st_cmp {op : CmpOp} {o : Op2} (ho : OpR X (compareOp op) (rOp b (opD o))) (ha : PE X a (rR b (evE cf ca))) (hb : PE X c (rR b (evE cf cb))) (hm : behindInMarks op c = false) : PT X (.Compare a [op] [c] pos) (rT b (evT cf (.cmp o ca cb))) :=
  (pt_cmpR ho ha hb hm).imp fun σ H Q ⟨m, F, s, w, wf, sl, p⟩ => by
    have p : Post b m F H (bnd (evE cf ca s) (fun x => bnd (evE cf cb s) fun y => lift ((opD o x y).bind boolD)) w) EqL Q := by simpa only [evT] using p
    refine ⟨m, F, s, w, wf, sl, (p.bind).imp fun x H1 ⟨m1, F1, dx, w1, f1, wf1, r1, p1⟩ => ?_⟩
    refine ⟨m1, F1, s, w1, wf1, sl.fm wf f1, (p1.bind).imp fun y H2 ⟨m2, F2, dy, w2, f2, wf2, r2, p2⟩ => ?_⟩
    exact ⟨m2, F2, w2, dx, dy, wf2, wf1.rr r1 f2, r2, p2.test⟩
/-- the first link of a chain -/
theorem Post.link {α β : Type} {m : Mu} {F : Fz} {H : Hp} {w : W} {o : Option D} {k : Bool → M α} {Rl : Mu → Fz → Hp → β → α → Prop} {Q : β → Hp → Prop} (wf : Wf b.z m F w H) (p : Post b m F H (bnd (Ev.lift (o.bind boolD)) k w) Rl Q) :
    Post b m F H (Ev.lift o w) (Rep b.z) (fun x H' => ∃ c, x = .bl c ∧ ∃ m' F' w', Fm m F H m' F' H' ∧ Wf b.z m' F' w' H' ∧ Post b m' F' H' (k c w') Rl Q) := by
  cases o with
  | none => exact p.elim
  | some d =>
    cases d with
    | bool c =>
      intro m' F' H' v f wf' r
      cases r
      exact ⟨c, rfl, m', F', _, f, wf', Post.after (r := k c w) p f⟩
    | _ => exact p.elim
theorem se_chain {op op' : CmpOp} {o o' : Op2} (ho : OpR X (compareOp op) (rOp b (opD o))) (ho' : OpR X (compareOp op') (rOp b (opD o'))) (ha : PE X a (rR b (evE cf ca))) (hb : PE X c (rR b (evE cf cb))) (hc : PE X e (rR b (evE cf cc))) (hm : lastMarks [op, op'] [c, e] = false) :
    PE X (.Compare a [op, op'] [c, e] pos) (rE b (evE cf (.chain o o' ca cb cc))) :=
  (pe_chain ho ho' ha hb hc hm).imp fun σ H Q ⟨m, F, s, w, wf, sl, p⟩ => by
    have p : Post b m F H (bnd (evE cf ca s) (fun x => bnd (evE cf cb s) fun y => bnd (lift ((opD o x y).bind boolD)) fun k => if k then (bnd (evE cf cc s) fun z => lift (opD o' y z)) else ret (.bool false)) w) (Rep b.z) Q := by simpa only [evE] using p
    refine ⟨m, F, s, w, wf, sl, (p.bind).imp fun x H1 ⟨m1, F1, dx, w1, f1, wf1, r1, p1⟩ => ?_⟩
    refine ⟨m1, F1, s, w1, wf1, sl.fm wf f1, (p1.bind).imp fun y H2 ⟨m2, F2, dy, w2, f2, wf2, r2, p2⟩ => ?_⟩
    refine ⟨m2, F2, w2, dx, dy, wf2, wf1.rr r1 f2, r2, (Post.link wf2 p2).imp fun v H3 ⟨k, e, m3, F3, w3, f3, wf3, p3⟩ => ?_⟩
    refine ⟨k, e, ?_⟩
    cases k with
    | true =>
      refine iteT ⟨m3, F3, s, w3, wf3, (sl.fm wf (f1.trans (f2.trans f3))), (Post.bind (k := fun z => lift (opD o' dy z)) p3).imp fun z H4 ⟨m4, F4, dz, w4, f4, wf4, r4, p4⟩ => ?_⟩
      exact ⟨m4, F4, w4, dy, dz, wf4, wf3.rr (wf2.rr r2 f3) f4, r4, p4⟩
    | false => exact iteF (p3 m3 F3 H3 _ (Fm.refl _ _ _) wf3 (.bl _))
theorem st_chain {op op' : CmpOp} {o o' : Op2} (ho : OpR X (compareOp op) (rOp b (opD o))) (ho' : OpR X (compareOp op') (rOp b (opD o'))) (ha : PE X a (rR b (evE cf ca))) (hb : PE X c (rR b (evE cf cb))) (hc : PE X e (rR b (evE cf cc))) (hm : lastMarks [op, op'] [c, e] = false) :
    PT X (.Compare a [op, op'] [c, e] pos) (rT b (evT cf (.chain o o' ca cb cc))) :=
  (pt_chain ho ho' ha hb hc hm).imp fun σ H Q ⟨m, F, s, w, wf, sl, p⟩ => by
    have p : Post b m F H (bnd (evE cf ca s) (fun x => bnd (evE cf cb s) fun y => bnd (lift ((opD o x y).bind boolD)) fun k => if k then (bnd (evE cf cc s) fun z => lift ((opD o' y z).bind boolD)) else ret false) w) EqL Q := by simpa only [evT] using p
    refine ⟨m, F, s, w, wf, sl, (p.bind).imp fun x H1 ⟨m1, F1, dx, w1, f1, wf1, r1, p1⟩ => ?_⟩
    refine ⟨m1, F1, s, w1, wf1, sl.fm wf f1, (p1.bind).imp fun y H2 ⟨m2, F2, dy, w2, f2, wf2, r2, p2⟩ => ?_⟩
    refine ⟨m2, F2, w2, dx, dy, wf2, wf1.rr r1 f2, r2, (Post.link wf2 p2).imp fun v H3 ⟨k, e, m3, F3, w3, f3, wf3, p3⟩ => ?_⟩
    refine ⟨k, e, ?_⟩
    cases k with
    | true =>
      refine iteT ⟨m3, F3, s, w3, wf3, (sl.fm wf (f1.trans (f2.trans f3))), (Post.bind (k := fun z => lift ((opD o' dy z).bind boolD)) p3).imp fun z H4 ⟨m4, F4, dz, w4, f4, wf4, r4, p4⟩ => ?_⟩
      exact ⟨m4, F4, w4, dy, dz, wf4, wf3.rr (wf2.rr r2 f3) f4, r4, p4.test⟩
    | false => exact iteF ⟨false, rfl, p3 m3 F3 H3 _ (Fm.refl _ _ _) wf3 rfl⟩
theorem intD_some {d : D} {k : Int} (h : intD d = some k) : d = .int k := by
  cases d with
  | int j => cases h; rfl
  | _ => cases h
/-- -a -/
theorem se_neg (ha : PE X a (rR b (evE cf ca))) : PE X (.UnaryOp .USub a pos) (rE b (evE cf (.neg ca))) :=
  (pe_un un_neg ha).imp fun σ H Q ⟨m, F, s, w, wf, sl, p⟩ => by
    have p : Post b m F H (bnd (evE cf ca s) (fun x => bnd (lift (intD x)) fun i => ret (.int (-i))) w) (Rep b.z) Q := by simpa only [evE] using p
    refine ⟨m, F, s, w, wf, sl, (p.bind).imp fun x H1 ⟨m1, F1, dx, w1, f1, wf1, r1, p1⟩ => ?_⟩
    obtain ⟨i, ei, p2⟩ := p1.lift
    have e1 := intD_some ei
    subst e1
    exact ⟨i, r1.int, Post.here (d := .int (-i)) p2 wf1 (.int _)⟩
theorem boolD_some {d : D} {k : Bool} (h : boolD d = some k) : d = .bool k := by
  cases d with
  | bool j => cases h; rfl
  | _ => cases h
/-- a and b, a or b, as values -/
theorem se_and {xs : List Expr} (ha : PE X a (rR b (evE cf ca))) (hb : PE X (.BoolOp .And (c :: xs) pos) (rE b (evE cf cb))) : PE X (.BoolOp .And (a :: c :: xs) pos) (rE b (evE cf (.and ca cb))) :=
  (pe_and ha hb).imp fun σ H Q ⟨m, F, s, w, wf, sl, p⟩ => by
    have p : Post b m F H (bnd (evE cf ca s) (fun x => bnd (lift (boolD x)) fun k => if k then evE cf cb s else ret (.bool false)) w) (Rep b.z) Q := by simpa only [evE] using p
    refine ⟨m, F, s, w, wf, sl, (p.bind).imp fun x H1 ⟨m1, F1, dx, w1, f1, wf1, r1, p1⟩ => ?_⟩
    obtain ⟨k, ek, p2⟩ := p1.lift
    have ed := boolD_some ek
    subst ed
    refine ⟨k, r1.bool, ?_⟩
    cases k with
    | true => exact iteT ⟨m1, F1, s, w1, wf1, sl.fm wf f1, p2⟩
    | false => exact iteF (Post.here (d := .bool false) p2 wf1 (.bl _))
theorem se_not (ha : PE X a (rR b (evE cf ca))) : PE X (.UnaryOp .Not a pos) (rE b (evE cf (.not ca))) :=
  (pe_not ha).imp fun σ H Q ⟨m, F, s, w, wf, sl, p⟩ => by
    have p : Post b m F H (bnd (evE cf ca s) (fun x => bnd (lift (boolD x)) fun k => ret (.bool (!k))) w) (Rep b.z) Q := by simpa only [evE] using p
    refine ⟨m, F, s, w, wf, sl, (p.bind).imp fun x H1 ⟨m1, F1, dx, w1, f1, wf1, r1, p1⟩ => ?_⟩
    obtain ⟨k, ek, p2⟩ := p1.lift
    have ed := boolD_some ek
    subst ed
    exact ⟨k, r1.bool, Post.here (d := .bool (!k)) p2 wf1 (.bl _)⟩
theorem se_ite {t : T} (ht : PT X e (rT b (evT cf t))) (ha : PE X a (rE b (evE cf ca))) (hb : PE X c (rE b (evE cf cb))) : PE X (.IfExp e a c pos) (rE b (evE cf (.ite t ca cb))) :=
  (pe_ifExp ht ha hb).imp fun σ H Q ⟨m, F, s, w, wf, sl, p⟩ => by
    have p : Post b m F H (bnd (evT cf t s) (fun k => if k then evE cf ca s else evE cf cb s) w) (Rep b.z) Q := by simpa only [evE] using p
    refine ⟨m, F, s, w, wf, sl, (p.bind).imp fun k H1 ⟨m1, F1, k', w1, f1, wf1, r1, p1⟩ => ?_⟩
    cases (show k = k' from r1)
    cases k with
    | true => exact iteT ⟨m1, F1, s, w1, wf1, sl.fm wf f1, p1⟩
    | false => exact iteF ⟨m1, F1, s, w1, wf1, sl.fm wf f1, p1⟩

theorem st_val (hw : b.z.wd = X.w) (ha : PE X a (rR b (evE cf ca))) (he : ∀ whole, isTrue a X.env whole = (do let v ← whole; standAt a.pos; holding [v] (truthy v))) : PT X a (rT b (evT cf (.val ca))) := by
  refine ⟨fun pins s σ H Q I h => ?_⟩
  obtain ⟨m, F, s', w, wf, sl, p⟩ := h
  have p : Post b m F H (bnd (evE cf ca s') (fun x => lift (truD x)) w) EqL Q := by simpa only [evT] using p
  refine isTrue_plain (thn (ha.run pins s σ H _ I ⟨m, F, s', w, wf, sl, p.bind⟩) fun v s1 ⟨x, H1, I1, r1, m1, F1, dx, w1, f1, wf1, rx, p1⟩ => ?_) (he _)
  exact td_truth hw pins s1 σ H1 x v Q I1 r1 ⟨m1, F1, w1, dx, wf1, rx, p1⟩
theorem st_not {t : T} (ht : PT X a (rT b (evT cf t))) : PT X (.UnaryOp .Not a pos) (rT b (evT cf (.not t))) :=
  (pt_not ht).imp fun σ H Q ⟨m, F, s, w, wf, sl, p⟩ => by
    have p : Post b m F H (bnd (evT cf t s) (fun k => ret (!k)) w) EqL Q := by simpa only [evT] using p
    refine ⟨m, F, s, w, wf, sl, (p.bind).imp fun k H1 ⟨m1, F1, k', w1, f1, wf1, r1, p1⟩ => ?_⟩
    cases (show k = k' from r1)
    exact p1 m1 F1 H1 _ (Fm.refl _ _ _) wf1 rfl
theorem sw_and {t u : T} {xs : List Expr} (ht : PT X a (rT b (evT cf t))) (hu : PW X (.BoolOp .And (c :: xs) pos) (rT b (evT cf u))) : PW X (.BoolOp .And (a :: c :: xs) pos) (rT b (evT cf (.and t u))) :=
  (pw_and ht hu).imp fun σ H Q ⟨m, F, s, w, wf, sl, p⟩ => by
    have p : Post b m F H (bnd (evT cf t s) (fun k => if k then evT cf u s else ret false) w) EqL Q := by simpa only [evT] using p
    refine ⟨m, F, s, w, wf, sl, (p.bind).imp fun k H1 ⟨m1, F1, k', w1, f1, wf1, r1, p1⟩ => ?_⟩
    cases (show k = k' from r1)
    cases k with
    | true => exact iteT ⟨m1, F1, s, w1, wf1, sl.fm wf f1, p1⟩
    | false => exact iteF (p1 m1 F1 H1 _ (Fm.refl _ _ _) wf1 rfl)
theorem sw_or {t u : T} {xs : List Expr} (ht : PT X a (rT b (evT cf t))) (hu : PW X (.BoolOp .Or (c :: xs) pos) (rT b (evT cf u))) : PW X (.BoolOp .Or (a :: c :: xs) pos) (rT b (evT cf (.or t u))) :=
  (pw_or ht hu).imp fun σ H Q ⟨m, F, s, w, wf, sl, p⟩ => by
    have p : Post b m F H (bnd (evT cf t s) (fun k => if k then ret true else evT cf u s) w) EqL Q := by simpa only [evT] using p
    refine ⟨m, F, s, w, wf, sl, (p.bind).imp fun k H1 ⟨m1, F1, k', w1, f1, wf1, r1, p1⟩ => ?_⟩
    cases (show k = k' from r1)
    cases k with
    | true => exact iteT (p1 m1 F1 H1 _ (Fm.refl _ _ _) wf1 rfl)
    | false => exact iteF ⟨m1, F1, s, w1, wf1, sl.fm wf f1, p1⟩

variable {x : Str} {p1 : Pos}
theorem one_pre {f : D → Option D} {σ : L2.St} {H : Hp} {Q : VK} (h : rd b (Rep b.z) (fun s => bnd (evE cf ca s) fun x => lift (f x)) σ H Q) : tCB (rC1 b f) (tCons (rR b (evE cf ca)) tNil) σ H Q := by
  obtain ⟨m, F, s, w, wf, sl, p⟩ := h
  exact ⟨m, F, s, w, wf, sl, (p.bind).imp fun v H1 ⟨m1, F1, dx, w1, f1, wf1, r1, p1⟩ => ⟨m1, F1, w1, v, dx, rfl, wf1, r1, p1⟩⟩
theorem se_bi {bi : Bi} {id : String} (hc : CallR X (.builtin id) (rC1 b (biD bi))) (hg : Gl X x) (hm : X.mg x = none) (hv : bootBuiltins x = some (.builtin id)) (ha : PE X a (rR b (evE cf ca))) (hs : notStar a = true) (hn : x ≠ "__name__") (hdb : (x == ("__debug__" : Str)) = false) :
    PE X (.Call (.Name x p1) [a] [] pos) (rE b (evE cf (.bi bi ca))) :=
  (pe_callB hc hg hm hv (pa_cons ha pa_nil (star_cons hs)) hn hdb (star_cons hs) rfl).imp fun σ H Q h => one_pre (by simpa only [evE] using h)
theorem se_bt {bi : Bi} {id : String} (hc : CallR X (.type id) (rC1 b (biD bi))) (hg : Gl X x) (hm : X.mg x = none) (hv : bootBuiltins x = some (.type id)) (ha : PE X a (rR b (evE cf ca))) (hs : notStar a = true) (hn : x ≠ "__name__") (hdb : (x == ("__debug__" : Str)) = false) :
    PE X (.Call (.Name x p1) [a] [] pos) (rE b (evE cf (.bi bi ca))) :=
  (pe_callTy hc hg hm hv (pa_cons ha pa_nil (star_cons hs)) hn hdb (star_cons hs) rfl).imp fun σ H Q h => one_pre (by simpa only [evE] using h)
theorem se_isi {t : Ty} {y : Str} {p2 : Pos} (hg : Gl X "isinstance") (hm : X.mg "isinstance" = none) (ha : PE X a (rR b (evE cf ca))) (hs : notStar a = true) (hg2 : Gl X y) (hm2 : X.mg y = none) (hy : bootBuiltins y = some (.type (tyN t))) (hn : y ≠ "__name__") (hdb : (y == ("__debug__" : Str)) = false) :
    PE X (.Call (.Name "isinstance" p1) [a, .Name y p2] [] pos) (rE b (evE cf (.isi t ca))) :=
  (pe_callB (cd_isi (t := t)) hg hm (by decide +kernel) (pa_cons ha (pa_cons (pe_bltn (v := .ty (tyN t)) hg2 hm2 hy rfl hn hdb) pa_nil) (star_cons hs)) (by decide) (by decide) (star_cons hs) rfl).imp fun σ H Q ⟨m, F, s, w, wf, sl, p⟩ => by
    have p : Post b m F H (bnd (evE cf ca s) (fun x => bnd (lift (isiD t x)) fun c => ret (.bool c)) w) (Rep b.z) Q := by simpa only [evE] using p
    exact ⟨m, F, s, w, wf, sl, (p.bind).imp fun v H1 ⟨m1, F1, dx, w1, f1, wf1, r1, p1⟩ => ⟨m1, F1, w1, v, dx, rfl, wf1, r1, p1⟩⟩
def notSl : Expr → Bool
  | .Slice .. => false
  | _ => true
theorem plain_ix (h : notSl c = true) : PlainIx c := fun o i => by
  cases c <;> first | rfl | (exact absurd h (by simp [notSl]))
theorem se_ix (hu : X.A.units + 10 < cLine) (hw : b.z.wd = X.w) (ha : PE X a (rR b (evE cf ca))) (hb : PE X c (rR b (evE cf cb))) (hs : notSl c = true) : PE X (.Subscript a c pos) (rE b (evE cf (.ix ca cb))) :=
  (pe_ix (id_ix hu hw) ha hb (plain_ix hs)).imp fun σ H Q h => op_pre (by simpa only [evE] using h)
abbrev rO (b : Bx) (f : Sl → M (Option Int)) : TO := rd b EqL f
theorem so_no : PO X none (rO b (evEo cf .no)) := by
  refine ⟨fun pins s σ H Q I h => ?_⟩
  obtain ⟨m, F, s', w, wf, sl, p⟩ := h
  exact po_none.run pins s σ H Q I (p m F H none (Fm.refl _ _ _) wf rfl)
theorem so_so (ha : PE X a (rR b (evE cf ca))) : PO X (some a) (rO b (evEo cf (.so ca))) := by
  refine ⟨fun pins s σ H Q I h => ?_⟩
  obtain ⟨m, F, s', w, wf, sl, p⟩ := h
  have p : Post b m F H (bnd (evE cf ca s') (fun x => bnd (lift (intD x)) fun i => ret (some i)) w) EqL Q := by simpa only [evEo] using p
  refine (po_some ha).run pins s σ H Q I ⟨m, F, s', w, wf, sl, (p.bind).imp fun x H1 ⟨m1, F1, dx, w1, f1, wf1, r1, p1⟩ => ?_⟩
  obtain ⟨i, ei, p2⟩ := p1.lift
  have e1 := intD_some ei
  subst e1
  exact ⟨i, r1.int, p2 m1 F1 H1 _ (Fm.refl _ _ _) wf1 rfl⟩
theorem se_sl {lo hi : Option Expr} {cl ch : Eo} {p2 : Pos} (ha : PE X a (rR b (evE cf ca))) (hl : PO X lo (rO b (evEo cf cl))) (hh : PO X hi (rO b (evEo cf ch))) : PE X (.Subscript a (.Slice lo hi none p2) pos) (rE b (evE cf (.sl ca cl ch))) :=
  (pe_slice sd_seq ha hl hh).imp fun σ H Q ⟨m, F, s, w, wf, sl, p⟩ => by
    have p : Post b m F H (bnd (evE cf ca s) (fun x => bnd (evEo cf cl s) fun l => bnd (evEo cf ch s) fun h => lift (slD x l h)) w) (Rep b.z) Q := by simpa only [evE] using p
    refine ⟨m, F, s, w, wf, sl, (p.bind).imp fun x H1 ⟨m1, F1, dx, w1, f1, wf1, r1, p1⟩ => ?_⟩
    refine ⟨m1, F1, s, w1, wf1, sl.fm wf f1, (p1.bind).imp fun l H2 ⟨m2, F2, dl, w2, f2, wf2, r2, p2⟩ => ?_⟩
    refine ⟨m2, F2, s, w2, wf2, sl.fm wf (f1.trans f2), (p2.bind).imp fun h H3 ⟨m3, F3, dh, w3, f3, wf3, r3, p3⟩ => ?_⟩
    cases (show l = dl from r2)
    cases (show h = dh from r3)
    exact ⟨m3, F3, w3, dx, wf3, wf1.rr r1 (f2.trans f3), p3⟩
theorem se_lst {es : List Expr} {cs : Es} (h : PA X es (rA b (evEs cf cs))) : PE X (.List es pos) (rE b (evE cf (.lst cs))) :=
  (pe_lst h).imp fun σ H Q ⟨m, F, s, w, wf, sl, p⟩ => by
    have p : Post b m F H (bnd (evEs cf cs s) (fun ds => if ds.length ≤ LIM then ret (.list ds) else bad) w) (Rep b.z) Q := by simpa only [evE] using p
    refine ⟨m, F, s, w, wf, sl, (p.bind).imp fun vs H1 ⟨m1, F1, ds, w1, f1, wf1, r1, p1⟩ => ?_⟩
    by_cases hl : ds.length ≤ LIM
    · rw [if_pos hl] at p1
      exact ⟨by rw [r1.length, ← lim_eq]; exact hl, Post.lst (w := w1) p1 wf1 r1⟩
    · rw [if_neg hl] at p1
      exact p1.elim
end
end Ev

set_option Elab.async false
set_option linter.all false
set_option maxRecDepth 100000
set_option autoImplicit false
namespace Ev
open PySem PySem.Spec PyProof.Rows L2

theorem isMut_set {s : Sl} {i j : Nat} {d : D} (h : isMut (s.set i (some (.i d))) j) : j ≠ i ∧ isMut s j := by
  have key : ∀ sv : SV, (∀ d', sv ≠ .i d') → (s.set i (some (.i d)))[j]? = some (some sv) → j ≠ i ∧ s[j]? = some (some sv) := fun sv hsv e => by
    by_cases hj : j = i
    · subst hj
      by_cases hl : j < s.length
      · rw [List.getElem?_set_self hl] at e
        exact absurd (Option.some.inj (Option.some.inj e)).symm (hsv d)
      · rw [List.getElem?_eq_none (by simpa using hl)] at e
        cases e
    · rw [List.getElem?_set_ne (Ne.symm hj)] at e
      exact ⟨hj, e⟩
  rcases h with ⟨xs, e⟩ | ⟨kvs, e⟩
  · obtain ⟨h1, h2⟩ := key (.l xs) (fun _ q => nomatch q) e
    exact ⟨h1, .inl ⟨xs, h2⟩⟩
  · obtain ⟨h1, h2⟩ := key (.m kvs) (fun _ q => nomatch q) e
    exact ⟨h1, .inr ⟨kvs, h2⟩⟩
section
variable {z : Zt} {m : Mu} {F : Fz} {H0 H : Hp} {s : Sl} {σ : L2.St}
theorem SlR.setI (x : SlR z m F H0 s σ H) {v : V} {d : D} {i : Nat} (r : Rep z m F H v d) (hi : i < s.length) : SlR z m F H0 (s.set i (some (.i d))) (σ.set i (some v)) H where
  len := by rw [List.length_set, List.length_set]; exact x.len
  imm := fun j d' e => by
    by_cases hj : j = i
    · subst hj
      rw [List.getElem?_set_self hi] at e
      cases e
      exact ⟨v, by rw [List.getElem?_set_self (by rw [← x.len]; exact hi)], r⟩
    · rw [List.getElem?_set_ne (Ne.symm hj)] at e
      obtain ⟨v', e1, r1⟩ := x.imm j d' e
      exact ⟨v', by rw [List.getElem?_set_ne (Ne.symm hj)]; exact e1, r1⟩
  lst := fun j xs e => by
    obtain ⟨hj, _⟩ := isMut_set (.inl ⟨xs, e⟩)
    rw [List.getElem?_set_ne (Ne.symm hj)] at e
    obtain ⟨a, vs, e1, e2, r1⟩ := x.lst j xs e
    exact ⟨a, vs, by rw [List.getElem?_set_ne (Ne.symm hj)]; exact e1, e2, r1⟩
  dct := fun j xs e => by
    obtain ⟨hj, _⟩ := isMut_set (.inr ⟨xs, e⟩)
    rw [List.getElem?_set_ne (Ne.symm hj)] at e
    obtain ⟨a, vs, e1, e2, r1⟩ := x.dct j xs e
    exact ⟨a, vs, by rw [List.getElem?_set_ne (Ne.symm hj)]; exact e1, e2, r1⟩
  free := fun j a hm ha => by
    obtain ⟨hj, h2⟩ := isMut_set hm
    rw [List.getElem?_set_ne (Ne.symm hj)] at ha
    exact x.free j a h2 ha
  inj := fun j k a h1 h2 e1 e2 => by
    obtain ⟨hj, h1'⟩ := isMut_set h1
    obtain ⟨hk, h2'⟩ := isMut_set h2
    rw [List.getElem?_set_ne (Ne.symm hj)] at e1
    rw [List.getElem?_set_ne (Ne.symm hk)] at e2
    exact x.inj j k a h1' h2' e1 e2
/-- forgetting slots -/
theorem SlR.unset (x : SlR z m F H0 s σ H) (i : Nat) : SlR z m F H0 (s.set i none) (σ.set i none) H := by
  have key : ∀ (j : Nat) (sv : SV), (s.set i none)[j]? = some (some sv) → j ≠ i ∧ s[j]? = some (some sv) := fun j sv e => by
    by_cases hj : j = i
    · subst hj
      by_cases hl : j < s.length
      · rw [List.getElem?_set_self hl] at e
        cases e
      · rw [List.getElem?_eq_none (by simpa using hl)] at e
        cases e
    · rw [List.getElem?_set_ne (Ne.symm hj)] at e
      exact ⟨hj, e⟩
  have mt : ∀ j, isMut (s.set i none) j → j ≠ i ∧ isMut s j := fun j h => by
    rcases h with ⟨xs, e⟩ | ⟨kvs, e⟩
    · exact ⟨(key j _ e).1, .inl ⟨xs, (key j _ e).2⟩⟩
    · exact ⟨(key j _ e).1, .inr ⟨kvs, (key j _ e).2⟩⟩
  refine ⟨by rw [List.length_set, List.length_set]; exact x.len, fun j d e => ?_, fun j d e => ?_, fun j d e => ?_, fun j a hm ha => ?_, fun j k a h1 h2 e1 e2 => ?_⟩
  · obtain ⟨hj, e'⟩ := key j _ e
    obtain ⟨v, e1, r⟩ := x.imm j d e'
    exact ⟨v, by rw [List.getElem?_set_ne (Ne.symm hj)]; exact e1, r⟩
  · obtain ⟨hj, e'⟩ := key j _ e
    obtain ⟨a, vs, e1, r⟩ := x.lst j d e'
    exact ⟨a, vs, by rw [List.getElem?_set_ne (Ne.symm hj)]; exact e1, r⟩
  · obtain ⟨hj, e'⟩ := key j _ e
    obtain ⟨a, vs, e1, r⟩ := x.dct j d e'
    exact ⟨a, vs, by rw [List.getElem?_set_ne (Ne.symm hj)]; exact e1, r⟩
  · obtain ⟨hj, h2⟩ := mt j hm
    rw [List.getElem?_set_ne (Ne.symm hj)] at ha
    exact x.free j a h2 ha
  · obtain ⟨hj, h1'⟩ := mt j h1
    obtain ⟨hk, h2'⟩ := mt k h2
    rw [List.getElem?_set_ne (Ne.symm hj)] at e1
    rw [List.getElem?_set_ne (Ne.symm hk)] at e2
    exact x.inj j k a h1' h2' e1 e2
theorem SlR.wipe (x : SlR z m F H0 s σ H) : ∀ vs : List Nat, SlR z m F H0 (wipeA s vs) (L2.wipe σ vs) H
  | [] => x
  | v :: vs => (SlR.wipe x vs).unset v
end

mutual
def slotsT : Tg → List Nat
  | .name i => [i]
  | .tup ts => slotsTs ts
def slotsTs : Tgs → List Nat
  | .nil => []
  | .cons t ts => slotsT t ++ slotsTs ts
end
/-- a datum, or (if g says so) a tuple that is taken apart at once -/
def RepW (z : Zt) (g : Bool) (m : Mu) (F : Fz) (H : Hp) (v : V) (d : D) : Prop := Rep z m F H v d ∨ (g = true ∧ ∃ a vs ds, v = .ref a ∧ d = .tuple ds ∧ H a = some (.tup vs) ∧ RepAll z m F H vs ds)
def isTT : Tg → Bool
  | .name _ => false
  | .tup _ => true
def rG (b : Bx) (tg : Tg) : TG := fun v σ H Q => ∃ m F s w d s', Wf b.z m F w H ∧ SlR b.z m F b.H0 s σ H ∧ RepW b.z (isTT tg) m F H v d ∧ bindT tg d s = some s' ∧
  ∀ σ', SlR b.z m F b.H0 s' σ' H → σ'.length = σ.length → (∀ j : Nat, j ∉ slotsT tg → σ'[j]? = σ[j]?) → Q σ' H
def rGs (b : Bx) (ts : Tgs) : TGs := fun vs σ H Q => ∃ m F s w ds s', Wf b.z m F w H ∧ SlR b.z m F b.H0 s σ H ∧ RepAll b.z m F H vs ds ∧ bindTs ts ds s = some s' ∧
  ∀ σ', SlR b.z m F b.H0 s' σ' H → σ'.length = σ.length → (∀ j : Nat, j ∉ slotsTs ts → σ'[j]? = σ[j]?) → Q σ' H
section
variable {X : Cx} {b : Bx} [KEq X b.z] {pos : Pos}
theorem sg_name {i : Nat} {x : Str} (hN : X.N.Nodup) (hi : X.N[i]? = some x) (hx : Loc X.env.scope x) (hf : X.fn x = true ∨ X.env.scope.names.lookup x = some .local) : PG X (.Name x pos) (rG b (.name i)) :=
  (pg_name hN hi hx hf).imp fun v σ H Q ⟨m, F, s, w, d, s', wf, sl, r, e, q⟩ => by
    have r : Rep b.z m F H v d := r.elim id fun h => absurd h.1 (by simp [isTT])
    unfold bindT at e
    split at e
    · rename_i hi
      cases e
      refine q _ (sl.setI r hi) (List.length_set ..) fun j hj => ?_
      have : j ≠ i := fun z => hj (by simp [slotsT, z])
      rw [List.getElem?_set_ne (Ne.symm this)]
    · cases e
theorem asg_cons {e : Expr} {es : List Expr} {env : Env} (h : notStar e = true) : assignEach (e :: es) env = (false, assign e env) :: assignEach es env := by
  cases e <;> first | rfl | (exact absurd h (by simp [notStar]))
theorem asg_len {env : Env} : ∀ {es : List Expr}, es.all notStar = true → (assignEach es env).length = es.length ∧ (assignEach es env).findIdx? (·.1) = none
  | [], _ => ⟨rfl, rfl⟩
  | e :: es, h => by
    rw [List.all_cons, Bool.and_eq_true] at h
    obtain ⟨h1, h2⟩ := asg_len (env := env) h.2
    rw [asg_cons h.1]
    refine ⟨by rw [List.length_cons, List.length_cons, h1], ?_⟩
    rw [List.findIdx?_cons, h2]
    rfl
theorem sgs_nil : PGs X [] (rGs b .nil) := ⟨fun pins s σ H vs us Q I r ⟨m, F, sl, w, ds, s', wf, sr, ra, e, q⟩ => by
  unfold bindTs at e
  cases ra with
  | nil =>
    cases e
    exact pgs_nil.run pins s σ H _ us Q I r ⟨rfl, q σ sr rfl fun _ _ => rfl⟩
  | cons h t => cases e⟩
theorem sgs_cons {e : Expr} {es : List Expr} {t : Tg} {ts : Tgs} (h1 : PG X e (rG b t)) (h2 : PGs X es (rGs b ts)) (hs : notStar e = true) : PGs X (e :: es) (rGs b (.cons t ts)) :=
  ⟨fun pins s σ H vs us Q I r ⟨m, F, sl, w, ds, s', wf, sr, ra, e, q⟩ => by
    cases ra with
    | nil => unfold bindTs at e; cases e
    | cons h tl =>
      unfold bindTs at e
      obtain ⟨s1, e1, e2⟩ := Option.bind_eq_some_iff.mp e
      refine (pgs_cons h1 h2 (by rw [asg_cons hs]; rfl)).run pins s σ H _ us Q I r ⟨_, _, rfl, m, F, sl, w, _, s1, wf, sr, .inl h, e1, fun σ1 sr1 l1 g1 => ?_⟩
      refine ⟨m, F, s1, w, _, s', wf, sr1, tl, e2, fun σ2 sr2 l2 g2 => q σ2 sr2 (l2.trans l1) fun j hj => ?_⟩
      have hj : j ∉ slotsT t ∧ j ∉ slotsTs ts := by simpa [slotsTs] using hj
      exact (g2 j hj.2).trans (g1 j hj.1)⟩
theorem sg_tup {es : List Expr} {k : Nat} {ts : Tgs} (hc : X.calm = true) (h : PGs X es (rGs b ts)) (hs : es.all notStar = true) (hn : ∀ ds s s', bindTs ts ds s = some s' → ds.length = es.length) : PG X (.Tuple es k pos) (rG b (.tup ts)) :=
  (pg_tup (n := es.length) hc h (asg_len hs).1 (asg_len hs).2).imp fun v σ H Q ⟨m, F, s, w, d, s', wf, sl, r, e, q⟩ => by
    unfold bindT at e
    cases d with
    | tuple ds =>
      rcases r with r | ⟨_, a, vs, _, rfl, ed, h1, h2⟩
      · obtain ⟨a, vs, rfl, h1, h2⟩ := (RepR.tuple (.inl r))
        exact ⟨a, vs, rfl, h1.sq KEq.eq, by rw [h2.length]; exact hn _ _ _ e, m, F, s, w, ds, s', wf, sl, h2, e, q⟩
      · cases ed
        exact ⟨a, vs, rfl, .inl (.inl h1), by rw [h2.length]; exact hn _ _ _ e, m, F, s, w, ds, s', wf, sl, h2, e, q⟩
    | _ => cases e
end
def lenTs : Tgs → Nat
  | .nil => 0
  | .cons _ ts => lenTs ts + 1
theorem bindTs_len : ∀ (ts : Tgs) (ds : List D) (s s' : Sl), bindTs ts ds s = some s' → ds.length = lenTs ts
  | .nil, [], _, _, _ => rfl
  | .nil, _ :: _, _, _, e => by unfold bindTs at e; cases e
  | .cons _ _, [], _, _, e => by unfold bindTs at e; cases e
  | .cons t ts, d :: ds, s, s', e => by
    unfold bindTs at e
    obtain ⟨s1, _, e2⟩ := Option.bind_eq_some_iff.mp e
    rw [List.length_cons, bindTs_len ts ds s1 s' e2]
    rfl
/-- the slots that no target touches are forgotten alike -/
theorem wipe_agree : ∀ (vs : List Nat) {σ σ' : L2.St}, σ'.length = σ.length → (∀ j : Nat, j ∉ vs → σ'[j]? = σ[j]?) → L2.wipe σ' vs = L2.wipe σ vs := by
  have get : ∀ (vs : List Nat) (σ : L2.St) (j : Nat), (L2.wipe σ vs)[j]? = if j ∈ vs ∧ j < σ.length then some none else σ[j]? := fun vs => by
    induction vs with
    | nil =>
      intro σ j
      rw [if_neg (by simp)]
      rfl
    | cons v vs ih =>
      intro σ j
      unfold L2.wipe
      by_cases hj : v = j
      · subst hj
        by_cases hl : v < σ.length
        · rw [List.getElem?_set_self (by rw [wipe_length]; exact hl), if_pos ⟨List.mem_cons_self, hl⟩]
        · rw [if_neg (fun q => hl q.2), List.getElem?_eq_none (by rw [List.length_set, wipe_length]; omega), List.getElem?_eq_none (by omega)]
      · rw [List.getElem?_set_ne hj, ih]
        have : (j ∈ v :: vs) ↔ j ∈ vs := by simp [Ne.symm hj]
        simp only [this]
  intro vs σ σ' hl hg
  refine List.ext_getElem? fun j => ?_
  rw [get, get, hl]
  by_cases hj : j ∈ vs
  · by_cases h2 : j < σ.length
    · rw [if_pos ⟨hj, h2⟩, if_pos ⟨hj, h2⟩]
    · rw [if_neg (fun q => h2 q.2), if_neg (fun q => h2 q.2), List.getElem?_eq_none (by omega), List.getElem?_eq_none (by omega)]
  · rw [if_neg (fun q => hj q.1), if_neg (fun q => hj q.1), hg j hj]

def Goes (z : Zt) (g : Bool) (m : Mu) (F : Fz) (H : Hp) (J : It) (ds : List D) : Prop := ds.length ≤ sizeLine ∧ ∀ m' F' H' w', Fk m F H m' F' H' → Wf z m' F' w' H' → J.stop ds.length H' ∧
  ∀ (i : Nat) (d : D), ds[i]? = some d → J.go i H' ∧ ∀ x H'', J.yld i H' x H'' → ∃ F'', Fm m' F' H' m' F'' H'' ∧ Wf z m' F'' w' H'' ∧ RepW z g m' F'' H'' x d
abbrev rI (b : Bx) {g : Bool} (f : Sl → M (List D)) : TI := rd b (Goes b.z g) f
section
variable {X : Cx} {b : Bx} [KEq X b.z] {cf : CF} {tg a c e : Expr} {ca cb : E} {pos p1 : Pos}
theorem goes_list {g : Bool} {K : PySem.W.Frag} {z : Zt} {m : Mu} {F : Fz} {H : Hp} {q : Addr} {vs : List V} {ds : List D} (hz : vs.length ≤ sizeLine) (hF : F q) (hq : H q = some (.lst vs)) (hr : RepAll z m F H vs ds) :
    Goes z g m F H (Itl K q) ds := ⟨by rw [← hr.length]; exact hz, fun m' F' H' w' f wf => by
  have h' := f.kp q _ hF hq
  refine ⟨⟨vs, .inl (.inl h'), by rw [hr.length]; exact Nat.le_refl _⟩, fun i d e => ?_⟩
  obtain ⟨v, e1, r⟩ := hr.get e
  refine ⟨⟨vs, v, .inl (.inl h'), e1⟩, fun x H'' hy => ?_⟩
  obtain ⟨rfl, hx⟩ := hy
  have := hx vs (.inl (.inl h'))
  rw [e1] at this
  cases this
  exact ⟨F', Fm.refl _ _ _, wf, .inl (f.rep r)⟩⟩
theorem goes_tup {g : Bool} {K : PySem.W.Frag} {z : Zt} {m : Mu} {F : Fz} {H : Hp} {q : Addr} {vs : List V} {ds : List D} (hK : K = z.K) (hz : vs.length ≤ sizeLine) (hq : NT z F H q vs) (hr : RepAll z m F H vs ds) :
    Goes z g m F H (Itt K q) ds := ⟨by rw [← hr.length]; exact hz, fun m' F' H' w' f wf => by
  have h' := (hq.keep f.kp f.grow).sq hK
  refine ⟨⟨vs, h', by rw [hr.length]; exact Nat.le_refl _⟩, fun i d e => ?_⟩
  obtain ⟨v, e1, r⟩ := hr.get e
  refine ⟨⟨vs, v, h', e1⟩, fun x H'' hy => ?_⟩
  obtain ⟨rfl, hx⟩ := hy
  have := hx vs (h')
  rw [e1] at this
  cases this
  exact ⟨F', Fm.refl _ _ _, wf, .inl (f.rep r)⟩⟩
theorem goes_range {g : Bool} {z : Zt} {m : Mu} {F : Fz} {H : Hp} {lo : Int} {n : Nat} (hn : n ≤ sizeLine) : Goes z g m F H (Itr lo n) ((List.range n).map fun (k : Nat) => .int (lo + k)) := ⟨by simpa using hn, fun m' F' H' w' f wf => by
  refine ⟨show n ≤ _ by simp, fun i d e => ?_⟩
  have hi : i < n := by
    have := (List.getElem?_eq_some_iff.mp e).1
    simpa using this
  refine ⟨hi, fun x H'' hy => ?_⟩
  obtain ⟨rfl, rfl⟩ := hy
  have ed : d = .int (lo + i) := by
    rw [List.getElem?_map, List.getElem?_range hi] at e
    exact (Option.some.inj e).symm
  subst ed
  exact ⟨F', Fm.refl _ _ _, wf, .inl (.int _)⟩⟩
theorem goes_keysN {g : Bool} {z : Zt} {m : Mu} {F : Fz} {H : Hp} {q : Addr} {od : Obj} {ks : List (NestedKey × Addr × V)} {ds : List (D × D)} (hz : ks.length ≤ sizeLine) (hF : F q) (hq : H q = some (.frz od (DN z.wd q ks))) (hr : RepKN z m F H ks ds) :
    Goes z g m F H (Itn q od z.wd ks) (ds.map (·.1)) := ⟨by rw [List.length_map, ← hr.len]; exact hz, fun m' F' H' w' f wf => by
  have h' := f.kp q _ hF hq
  refine ⟨⟨h', by rw [List.length_map, hr.len]; exact Nat.le_refl _⟩, fun i d e => ?_⟩
  rw [List.getElem?_map] at e
  obtain ⟨p, e1, rfl⟩ := Option.map_eq_some_iff.mp e
  obtain ⟨a, v, e2, r⟩ := hr.keyAt e1
  refine ⟨⟨h', (List.getElem?_eq_some_iff.mp e2).1⟩, fun x H'' hy => ?_⟩
  obtain ⟨rfl, k, a', v', e3, rfl⟩ := hy
  rw [e2] at e3
  cases e3
  exact ⟨F', Fm.refl _ _ _, wf, .inl (f.rep r)⟩⟩
theorem goes_keys {g : Bool} {z : Zt} {m : Mu} {F : Fz} {H : Hp} {q : Addr} {od : Obj} {ks : List (Key × V)} {ds : List (D × D)} (hz : ks.length ≤ sizeLine) (hF : F q) (hq : H q = some (.frz od (.dK ks))) (hr : RepKV z m F H ks ds) :
    Goes z g m F H (Itk q od ks) (ds.map (·.1)) := ⟨by rw [List.length_map, ← hr.lenV]; exact hz, fun m' F' H' w' f wf => by
  have h' := f.kp q _ hF hq
  refine ⟨⟨h', by rw [List.length_map, hr.lenV]; exact Nat.le_refl _⟩, fun i d e => ?_⟩
  rw [List.getElem?_map] at e
  obtain ⟨p, e1, rfl⟩ := Option.map_eq_some_iff.mp e
  obtain ⟨k, v, e2, r⟩ := hr.keyAt e1
  refine ⟨⟨h', (List.getElem?_eq_some_iff.mp e2).1⟩, fun x H'' hy => ?_⟩
  obtain ⟨rfl, k', v', e3, rfl⟩ := hy
  rw [e2] at e3
  cases e3
  exact ⟨F', Fm.refl _ _ _, wf, .inl (f.rep r)⟩⟩
theorem si_seq {g : Bool} (ha : PE X a (rE b (evE cf ca))) : PI X tg a (rI b (g := g) (evI cf (.seq ca))) := by
  refine ⟨fun pins s σ H R I h => ?_⟩
  obtain ⟨m, F, sl, w, wf, sr, p⟩ := h
  have p : Post b m F H (bnd (evE cf ca sl) (fun x => lift (seqD x)) w) (Goes b.z g) R := by simpa only [evI] using p
  refine thn (ha.run pins s σ H _ I ⟨m, F, sl, w, wf, sr, p.bind⟩) fun v s1 ⟨x, H1, I1, r1, m1, F1, d, w1, f1, wf1, rx, p1⟩ => ?_
  obtain ⟨ds, ed, p2⟩ := p1.lift1
  cases d with
  | list xs =>
    cases ed
    cases rx with
    | lst hF h1 h2 =>
      rename_i q vs
      cases r1
      obtain ⟨its, rv, pl, hz⟩ := I1.list (X := X) (.inl (.inl h1))
      refine wpAny_pyIter_list pl.isList ?_
      refine ⟨s1.heap.objs.size, [s1.heap.objs.size], _, _, H1, rfl, I1.kept (t' := s1.toks) fun b o e => Heap.get?_push_of_some _ e, turn_list q _, ⟨_, Heap.get?_push_size _ rfl, rfl, rfl⟩, fun b hb => ?_, ?_⟩
      · have e : b = s1.heap.objs.size := by simpa using hb
        subst e
        exact I1.fpOk (Nat.le_refl _) (I1.hok.fresh (Nat.le_refl _))
      · exact p2 m1 F1 H1 _ (Fm.refl _ _ _) wf1 (goes_list hz hF h1 h2)
  | tuple xs =>
    cases ed
    cases rx with
    | tup h1 h2 =>
      rename_i q vs
      cases r1
      obtain ⟨its, rv, pl, hz⟩ := I1.tuple (X := X) (h1.sq KEq.eq)
      refine wpAny_pyIter_tuple (show s1.heap.IsTuple q its.toArray from pl) ?_
      refine ⟨s1.heap.objs.size, [s1.heap.objs.size], _, _, H1, rfl, I1.kept (t' := s1.toks) fun b o e => Heap.get?_push_of_some _ e, turn_tuple q _, ⟨_, Heap.get?_push_size _ rfl, rfl, rfl⟩, fun b hb => ?_, ?_⟩
      · have e : b = s1.heap.objs.size := by simpa using hb
        subst e
        exact I1.fpOk (Nat.le_refl _) (I1.hok.fresh (Nat.le_refl _))
      · exact p2 m1 F1 H1 _ (Fm.refl _ _ _) wf1 (goes_tup KEq.eq hz h1 h2)
  | dict kvs =>
    have ed : (if kdOk kvs then some (kvs.map (·.1)) else none) = some ds := ed
    split at ed
    · rename_i hk
      cases ed
      generalize hdd : PyData.dict kvs = dd at rx
      cases rx with
      | @dK q od o ds' hF h1 h2 =>
        cases hdd
        cases r1
        cases h2 with
        | k h2 =>
          obtain ⟨hs, hgd, hx, es, ep, vs, hdt, hsz, kv, hm⟩ := I1.frzK h1
          obtain ⟨_, hz, _⟩ := (show ObjOk X.prog X.w H1 s1.heap q (.frz od (.dK _)) from I1.hok q _ h1)
          refine iter_keys hs hgd hx hdt (pi_one (tk := s1.toks) I1 _ (turn_keys _ hdt) ⟨_, Heap.get?_push_size _ rfl, rfl, ?_⟩ (p2 m1 F1 H1 _ (Fm.refl _ _ _) wf1 (goes_keys hz hF h1 h2)))
          rw [hsz] <;> rfl
        | n h2 hn =>
          obtain ⟨hs, hgd, hx, hz, es, ep, hdt, hsz, ent⟩ := Inv.frzN I1 h1
          refine iter_keys hs hgd hx hdt (pi_one (tk := s1.toks) I1 _ (turn_keysN _ hdt) ⟨_, Heap.get?_push_size _ rfl, rfl, ?_⟩ (p2 m1 F1 H1 _ (Fm.refl _ _ _) wf1 (goes_keysN hz hF h1 h2)))
          rw [hsz] <;> rfl
      | fn n => cases hdd; simp [kdOk, keyOk, tkOk, isTup] at hk
      | scr => cases hdd; simp [kdOk, keyOk, tkOk, isTup] at hk
      | ob h => cases hdd; simp [kdOk, keyOk, tkOk, isTup] at hk
      | _ => cases hdd
    · cases ed
  | _ => cases ed
end
end Ev

set_option Elab.async false
set_option linter.all false
set_option maxRecDepth 100000
set_option autoImplicit false
namespace Ev
open PySem PySem.Spec PyProof.Rows L2
end Ev

set_option Elab.async false
set_option linter.all false
set_option maxRecDepth 100000
set_option autoImplicit false
namespace Ev
open PySem PySem.Spec PyProof.Rows L2
section
variable {X : Cx} {b : Bx} [KEq X b.z] {cf : CF} {tg a c e : Expr} {ca cb : E} {pos p1 : Pos}
/-- a value's length is bounded -/
theorem _root_.L2.PE.sized {t : TE} (h : PE X e t) : PE X e (fun σ H Q => t σ H fun v H' => (∀ (a : Addr) (xs : List V), v = .ref a → (H' a = some (.lst xs) ∨ SqT X.K H' a xs) → xs.length ≤ sizeLine) → Q v H') :=
  ⟨fun pins s σ H Q I q => thn (h.run pins s σ H _ I q) fun u s1 ⟨v, H1, I1, r1, q1⟩ => ⟨v, H1, I1, r1, q1 fun a xs _ hx => by
    rcases hx with hx | hx
    · exact (show ObjOk X.prog X.w H1 s1.heap a (.lst xs) from I1.hok a _ hx).1
    · obtain ⟨_, _, _, hz⟩ := I1.tuple hx
      exact hz⟩⟩
theorem rangeD_some {lo hi : Int} {ds : List D} (h : rangeD lo hi = some ds) : (-(2 ^ 62) ≤ lo ∧ lo < 2 ^ 62 ∧ -(2 ^ 62) ≤ hi ∧ hi < 2 ^ 62) ∧ (hi - lo).toNat ≤ sizeLine ∧ ds = (List.range (hi - lo).toNat).map fun (k : Nat) => .int (lo + k) := by
  unfold rangeD at h
  split at h
  · rename_i q
    cases h
    exact ⟨⟨q.1, q.2.1, q.2.2.1, q.2.2.2.1⟩, by rw [← lim_eq]; exact q.2.2.2.2, rfl⟩
  · cases h
theorem si_range1 {g : Bool} (hg : Gl X "range") (hm : X.mg "range" = none) (ha : PE X a (rR b (evE cf ca))) (hs : notStar a = true) : PI X tg (.Call (.Name "range" p1) [a] [] pos) (rI b (g := g) (evI cf (.range1 ca))) :=
  (pi_range1 hg hm (pa_cons ha pa_nil (star_cons hs)) (star_cons hs)).imp fun σ H R ⟨m, F, s, w, wf, sl, p⟩ => by
    have p : Post b m F H (bnd (evE cf ca s) (fun x => bnd (lift (intD x)) fun i => lift (rangeD 0 i)) w) (Goes b.z g) R := by simpa only [evI] using p
    refine ⟨m, F, s, w, wf, sl, (p.bind).imp fun x H1 ⟨m1, F1, dx, w1, f1, wf1, r1, p1⟩ => ?_⟩
    obtain ⟨i, ei, p2⟩ := p1.lift
    obtain ⟨ds, ed, p3⟩ := p2.lift1
    have e1 := intD_some ei
    subst e1
    obtain ⟨h1, h2, rfl⟩ := rangeD_some ed
    have e0 : i - 0 = i := Int.sub_zero i
    rw [e0] at p3 h2
    exact ⟨i, by rw [r1.int], h1.2.2.1, h1.2.2.2, p3 m1 F1 H1 _ (Fm.refl _ _ _) wf1 (goes_range h2)⟩
theorem NT.sx {z : Zt} {m : Mu} {F : Fz} {H : Hp} {v : V} {d : D} {ds : List D} {K : PySem.W.Frag} (hK : K = z.K) (r : Rep z m F H v d) (hd : seqO d = some ds) : ∃ (k : Bool) (a : Addr) (vs : List V), v = .ref a ∧ RepAll z m F H vs ds ∧ (H a = some (.lst vs) ∨ SqT K H a vs) ∧ ∀ (m' : Mu) (F' : Fz) (H' : Hp), Fk m F H m' F' H' → SqX k K H' a vs := by
  unfold seqO at hd
  split at hd
  · cases hd
    cases r with
    | lst h1 h2 h3 => exact ⟨true, _, _, rfl, h3, .inl h2, fun m' F' H' f => .inl (.inl (f.kp _ _ h1 h2))⟩
  · cases hd
    cases r with
    | tup h1 h3 => exact ⟨false, _, _, rfl, h3, .inr (h1.sq hK), fun m' F' H' f => (h1.keep f.kp f.grow).sq hK⟩
  · cases hd
theorem zipD_some {x y : D} {ds : List D} (h : zipD x y = some ds) : ∃ xs ys, seqO x = some xs ∧ seqO y = some ys ∧ ds = (xs.zip ys).map pairD := by
  unfold zipD at h
  split at h
  · cases h
    exact ⟨_, _, rfl, rfl, rfl⟩
  · cases h
    exact ⟨_, _, rfl, rfl, rfl⟩
  · cases h
    exact ⟨_, _, rfl, rfl, rfl⟩
  · cases h
    exact ⟨_, _, rfl, rfl, rfl⟩
  · cases h
theorem goes_zipX {K : PySem.W.Frag} {z : Zt} {m : Mu} {F : Fz} {H : Hp} {q r : Addr} {vs us : List V} {ds es : List D} {k1 k2 : Bool} (hz : vs.length ≤ sizeLine) (h1 : ∀ m' F' H', Fk m F H m' F' H' → SqX k1 K H' q vs) (h2 : ∀ m' F' H', Fk m F H m' F' H' → SqX k2 K H' r us) (r1 : RepAll z m F H vs ds) (r2 : RepAll z m F H us es) :
    Goes z true m F H (ItzX k1 k2 K q r) ((ds.zip es).map pairD) := ⟨by rw [List.length_map, List.length_zip, ← r1.length]; omega, fun m' F' H' w' f wf => by
  have g1 := h1 m' F' H' f
  have g2 := h2 m' F' H' f
  refine ⟨⟨vs, us, g1, g2, by rw [List.length_map, List.length_zip, r1.length, r2.length]; omega⟩, fun i d e => ?_⟩
  rw [List.getElem?_map] at e
  obtain ⟨p, ep, rfl⟩ := Option.map_eq_some_iff.mp e
  obtain ⟨e1, e2⟩ := List.getElem?_zip_eq_some.mp ep
  obtain ⟨v, ev, rv⟩ := r1.get e1
  obtain ⟨u, eu, ru⟩ := r2.get e2
  refine ⟨⟨vs, us, v, u, g1, g2, ev, eu⟩, fun x H'' hy => ?_⟩
  obtain ⟨T, x', y', rfl, hT, rfl, hx, hy⟩ := hy
  have q1 := hx vs g1
  have q2 := hy us g2
  rw [ev] at q1; cases q1
  rw [eu] at q2; cases q2
  exact ⟨frzA F' T, Fm.laidF hT, wf.laidF hT, .inr ⟨rfl, _, _, _, rfl, rfl, upd_same, .cons (wf.rep (Fm.laidF hT) (f.rep rv)) (.cons (wf.rep (Fm.laidF hT) (f.rep ru)) .nil)⟩⟩⟩
theorem si_zip {elts : List Expr} {kk : Nat} {tpos : Pos} (hg : Gl X "zip") (hm : X.mg "zip" = none) (ha : PE X a (rE b (evE cf ca))) (hb : PE X c (rE b (evE cf cb))) (hs : notStar a = true) (hs2 : notStar c = true) : PI X (.Tuple elts kk tpos) (.Call (.Name "zip" p1) [a, c] [] pos) (rI b (g := true) (evI cf (.zip ca cb))) :=
  (pi_zipX hg hm (pa_cons ha.sized (pa_cons hb pa_nil (star_cons hs2)) (star_cons hs)) (star_cons hs) (by rw [star_cons hs2]; rfl)).imp fun σ H R ⟨m, F, sl, w, wf, sr, p⟩ => by
  have p : Post b m F H (bnd (evE cf ca sl) (fun x => bnd (evE cf cb sl) fun y => lift (zipD x y)) w) (Goes b.z true) R := by simpa only [evI] using p
  refine ⟨m, F, sl, w, wf, sr, (p.bind).imp fun x H1 ⟨m1, F1, dx, w1, f1, wf1, r1, p1⟩ hsz => ?_⟩
  refine ⟨m1, F1, sl, w1, wf1, sr.fm wf f1, (p1.bind).imp fun y H2 ⟨m2, F2, dy, w2, f2, wf2, r2, p2⟩ => ?_⟩
  obtain ⟨ds, ed, p3⟩ := p2.lift1
  obtain ⟨xs, ys, ex, ey, rfl⟩ := zipD_some ed
  obtain ⟨k1, q, vs, rfl, s1, z1, t1⟩ := NT.sx (K := X.K) KEq.eq r1 ex
  obtain ⟨k2, r, us, rfl, s2, z2, t2⟩ := NT.sx (K := X.K) KEq.eq r2 ey
  have fk2 := wf1.fk f2
  have hz : vs.length ≤ sizeLine := hsz _ _ rfl z1
  exact ⟨q, r, vs, us, k1, k2, rfl, t1 m2 F2 H2 fk2, t2 m2 F2 H2 (Fk.refl _ _ _), p3 m2 F2 H2 _ (Fm.refl _ _ _) wf2 (goes_zipX hz (fun m' F' H' f => t1 m' F' H' (fk2.trans f)) t2 (wf1.repAll f2 s1) s2)⟩
end
end Ev

set_option Elab.async false
set_option linter.all false
set_option maxRecDepth 100000
set_option autoImplicit false
namespace Ev
open PySem PySem.Spec PyProof.Rows L2
/-- no exception leaves a block -/
abbrev Bx.no (b : Bx) : Bx := { b with E := fun _ _ _ => False }
theorem bnd_ret {α : Type} (x : M α) : bnd x ret = x := by
  funext w
  unfold bnd ret
  cases x w <;> rfl
/-- one turn of a comprehension's block -/
def turnC (cf : CF) (elt : E) (tg : Tg) (ifs : Ts) (s : Sl) (d : D) : M (Option D) :=
  bnd (lift (bindT tg d s)) fun s' => bnd (evTs cf ifs s') fun b => if b then (bnd (evE cf elt s') fun x => ret (some x)) else ret none
section
variable {α β : Type} {x : M α} {k : α → M β} {w w' : W} {a : α} {c : Nat}
theorem bnd_ok (h : x w = .ok a w') : bnd x k w = k a w' := by unfold bnd; rw [h]
theorem bnd_exc (h : x w = .exc c w') : bnd x k w = .exc c w' := by unfold bnd; rw [h]
theorem bnd_bad (h : x w = .bad) : bnd x k w = .bad := by unfold bnd; rw [h]
theorem nox_ok (h : x w = .ok a w') : nox x w = .ok a w' := by unfold nox; rw [h]
theorem nox_exc (h : x w = .exc c w') : nox x w = .bad := by unfold nox; rw [h]
theorem nox_bad (h : x w = .bad) : nox x w = .bad := by unfold nox; rw [h]
theorem nox_eq {y : M α} (h : x w = y w') : nox x w = nox y w' := by unfold nox; rw [h]
end
section
variable {f : D → M (Option D)} {d x : D} {ds : List D} {w w' : W} {c : Nat}
theorem compL_some (h : f d w = .ok (some x) w') : compL f (d :: ds) w = bnd (compL f ds) (fun r => ret (x :: r)) w' := by
  rw [compL]
  exact bnd_ok h
theorem compL_none (h : f d w = .ok none w') : compL f (d :: ds) w = compL f ds w' := by
  rw [compL]
  refine (bnd_ok h).trans ?_
  show bnd (compL f ds) ret w' = _
  rw [bnd_ret]
theorem compL_exc (h : f d w = .exc c w') : compL f (d :: ds) w = .exc c w' := by
  rw [compL]
  exact bnd_exc h
theorem compL_bad (h : f d w = .bad) : compL f (d :: ds) w = .bad := by
  rw [compL]
  exact bnd_bad h
end
theorem wipe_wipe (σ : L2.St) (vs : List Nat) : L2.wipe (L2.wipe σ vs) vs = L2.wipe σ vs := wipe_agree vs (wipe_length σ vs) fun j hj => wipe_out hj
section
variable {X : Cx} {b : Bx} [KEq X b.z] {cf : CF} {tg iter elt : Expr} {ifs : List Expr} {scope : Scope} {own : List (Str × Nat)} {pos : Pos} {tgc : Tg} {itc : I} {ifc : Ts} {ec : E}
theorem comp_pre {Rl : Mu → Fz → Hp → V → D → Prop} {σ : L2.St} {H : Hp} {Q : VK} (hsl : ∀ j ∈ slotsT tgc, j ∈ own.map (·.2))
    (hR : ∀ m F Hx w a vs ds m1 F1 H1, (∀ c, H1 c = none → H c = none) → Fm m1 F1 H1 m F Hx → H1 a = none → Wf b.z m F w Hx → ¬ F a → a ∉ m.flatten → Hx a = some (.lst vs) → RepAll b.z m F Hx vs ds → ∀ Q : VK, Post b m1 F1 H1 (.ok (.list ds) w) Rl Q → Q (.ref a) Hx)
    (h : rd b Rl (fun s => bnd (evI cf itc s) fun ds => bnd (nox (compL (turnC cf ec tgc ifc (wipeA s (own.map (·.2)))) ds)) fun r => ret (.list r)) σ H Q) :
    tLc (rI b (g := isTT tgc) (evI cf itc)) (rG b.no tgc) (rT b.no (evTs cf ifc)) (rE b.no (evE cf ec)) (own.map (·.2)) σ H Q := by
  obtain ⟨m, F, s, w, wf, sl, p⟩ := h
  refine ⟨m, F, s, w, wf, sl, (p.bind).imp fun J H1 ⟨m1, F1, ds, w1, f1, wf1, goes, p1⟩ => ?_⟩
  intro D hD
  obtain ⟨hlen, goes⟩ := goes
  generalize hf : turnC cf ec tgc ifc (wipeA s (own.map (·.2))) = f at p1
  refine ⟨fun i k Hc => k + i = ds.length ∧ ∃ m2 F2 w2 acc rs, Fm m1 F1 H1 m2 F2 Hc ∧ Wf b.z m2 F2 w2 Hc ∧ ¬ F2 D ∧ D ∉ m2.flatten ∧ Hc D = some (.lst acc) ∧ RepAll b.z m2 F2 Hc acc rs ∧ acc.length ≤ i ∧
    Post b m1 F1 H1 (bnd (nox (compL f (ds.drop i))) (fun r => ret (.list (rs ++ r))) w2) Rl Q, ⟨ds.length, rfl, m1, F1, w1, [], [], Fm.laid hD, wf1.laid hD, ?_, ?_, upd_same, .nil, Nat.le_refl _, ?_⟩, ?_⟩
  · intro hF
    obtain ⟨o, ho⟩ := wf1.dom D hF
    rw [hD] at ho; cases ho
  · intro hm
    obtain ⟨o, ho⟩ := wf1.mdom D hm
    rw [hD] at ho; cases ho
  · exact p1
  · rintro i k Hc ⟨hk, m2, F2, w2, acc, rs, f2, wf2, nF, nM, hacc, hr, hai, pc⟩
    obtain ⟨stop, go⟩ := goes m2 F2 Hc w2 (wf1.fk f2) wf2
    by_cases hi : i < ds.length
    · refine .inr ?_
      have ed : ds[i]? = some ds[i] := List.getElem?_eq_getElem hi
      rw [List.drop_eq_getElem_cons hi] at pc
      generalize hd : ds[i] = d at ed pc
      obtain ⟨g1, g2⟩ := go i d ed
      -- the turn
      have key : ∃ s' c w3, bindT tgc d (wipeA s (own.map (·.2))) = some s' ∧ evTs cf ifc s' w2 = .ok c w3 := by
        cases e1 : bindT tgc d (wipeA s (own.map (·.2))) with
        | none =>
          have : f d w2 = .bad := by
            rw [← hf]
            unfold turnC
            rw [e1]
            rfl
          rw [bnd_bad (nox_bad (compL_bad this))] at pc
          exact pc.elim
        | some s' =>
          refine ⟨s', ?_⟩
          cases e2 : evTs cf ifc s' w2 with
          | ok c w3 => exact ⟨c, w3, rfl, rfl⟩
          | exc c w3 =>
            have : f d w2 = .exc c w3 := by
              rw [← hf]
              unfold turnC
              rw [e1]
              exact (bnd_ok (x := lift (some s')) (a := s') (w' := w2) rfl).trans (bnd_exc e2)
            rw [bnd_bad (nox_exc (compL_exc this))] at pc
            exact pc.elim
          | bad =>
            have : f d w2 = .bad := by
              rw [← hf]
              unfold turnC
              rw [e1]
              exact (bnd_ok (x := lift (some s')) (a := s') (w' := w2) rfl).trans (bnd_bad e2)
            rw [bnd_bad (nox_bad (compL_bad this))] at pc
            exact pc.elim
      obtain ⟨s', c, w3, e1, e2⟩ := key
      have ef : f d w2 = (if c then (bnd (evE cf ec s') fun x => ret (some x)) else ret none) w3 := by
        rw [← hf]
        unfold turnC
        rw [e1]
        exact bnd_ok e2
      refine ⟨g1, fun Hn => ds.length - (i + 1) + (i + 1) = ds.length ∧ ∃ m2 F2 w2 acc rs, Fm m1 F1 H1 m2 F2 Hn ∧ Wf b.z m2 F2 w2 Hn ∧ ¬ F2 D ∧ D ∉ m2.flatten ∧ Hn D = some (.lst acc) ∧ RepAll b.z m2 F2 Hn acc rs ∧ acc.length ≤ i + 1 ∧
        Post b m1 F1 H1 (bnd (nox (compL f (ds.drop (i + 1)))) (fun r => ret (.list (rs ++ r))) w2) Rl Q, fun Hn hn => ⟨ds.length - (i + 1), by omega, hn⟩, fun x H3 hy => ?_⟩
      obtain ⟨F3, f3, wf3, r3⟩ := g2 x H3 hy
      have fh3 := f1.trans (f2.trans f3)
      refine ⟨m2, F3, wipeA s (own.map (·.2)), w2, d, s', wf3, (sl.fm wf fh3).wipe _, r3, e1, fun σ2 sr2 l2 ag2 => ⟨?_, ?_⟩⟩
      · rw [wipe_agree (own.map (·.2)) l2 fun j hj => ag2 j fun hm => hj (hsl j hm)]
        exact wipe_wipe _ _
      refine ⟨m2, F3, s', w2, wf3, sr2, ?_⟩
      rw [e2]
      intro m4 F4 H4 v4 f4 wf4 hv
      cases (show v4 = c from hv)
      have f34 := f3.trans f4
      have hacc4 := f34.keep D _ hacc nM
      have nM4 := f34.out hacc nM
      have nF4 : ¬ F4 D := fun q => by
        rcases f34.fnew D q with z | z
        · exact nF z
        · rw [hacc] at z; cases z
      cases c with
      | false =>
        refine iteF ⟨by omega, m4, F4, w3, acc, rs, f2.trans f34, wf4, nF4, nM4, hacc4, wf2.repAll f34 hr, by omega, ?_⟩
        have : nox (compL f (d :: ds.drop (i + 1))) w2 = nox (compL f (ds.drop (i + 1))) w3 := nox_eq (compL_none ef)
        unfold bnd at pc ⊢
        rw [this] at pc
        exact pc
      | true =>
        refine iteT ⟨m4, F4, s', w3, wf4, sr2.fm wf3 f4, ?_⟩
        have ef' : f d w2 = bnd (evE cf ec s') (fun x => ret (some x)) w3 := ef
        cases e3 : evE cf ec s' w3 with
        | ok x5 w5 =>
          intro m6 F6 H6 v6 f6 wf6 r6
          have f36 := f34.trans f6
          have hacc6 := f36.keep D _ hacc nM
          have nM6 := f36.out hacc nM
          have nF6 : ¬ F6 D := fun q => by
            rcases f36.fnew D q with z | z
            · exact nF z
            · rw [hacc] at z; cases z
          refine ⟨acc, hacc6, by omega, by omega, m6, F6, w5, acc ++ [v6], rs ++ [x5], (f2.trans f36).updNew hD, wf6.updA nF6 nM6, nF6, nM6, upd_same, ?_, by rw [List.length_append, List.length_singleton]; omega, ?_⟩
          · exact ((wf2.repAll f36 hr).append (.cons r6 .nil)).mono (Kp.updA nF6) (fun _ h => h) (fun _ _ h => h)
          · have ef2 : f d w2 = .ok (some x5) w5 := ef'.trans (bnd_ok e3)
            have : (bnd (nox (compL f (d :: ds.drop (i + 1)))) fun r => ret (PyData.list (rs ++ r))) w2 = (bnd (nox (compL f (ds.drop (i + 1)))) fun r => ret (PyData.list (rs ++ [x5] ++ r))) w5 := by
              have e4 := compL_some (ds := ds.drop (i + 1)) ef2
              cases e5 : compL f (ds.drop (i + 1)) w5 with
              | ok r w6 =>
                rw [bnd_ok (nox_ok (e4.trans (bnd_ok e5))), bnd_ok (nox_ok e5), List.append_assoc]
                rfl
              | exc _ _ => rw [bnd_bad (nox_exc (e4.trans (bnd_exc e5))), bnd_bad (nox_exc e5)]
              | bad => rw [bnd_bad (nox_bad (e4.trans (bnd_bad e5))), bnd_bad (nox_bad e5)]
            rw [this] at pc
            exact pc
        | exc c5 w5 =>
          rw [bnd_bad (nox_exc (compL_exc (ef'.trans (bnd_exc e3))))] at pc
          exact pc.elim
        | bad =>
          rw [bnd_bad (nox_bad (compL_bad (ef'.trans (bnd_bad e3))))] at pc
          exact pc.elim
    · refine .inl ?_
      have ei : i = ds.length := by omega
      subst ei
      refine ⟨stop, ?_⟩
      rw [List.drop_length] at pc
      have pc : Post b m1 F1 H1 (.ok (.list (rs ++ [])) w2) Rl Q := pc
      rw [List.append_nil] at pc
      exact hR m2 F2 Hc w2 D acc rs m1 F1 H1 (fun c hc => f1.unlaid hc) f2 hD wf2 nF nM hacc hr Q pc
end
end Ev

set_option Elab.async false
set_option linter.all false
set_option maxRecDepth 100000
set_option autoImplicit false
namespace Ev
open PySem PySem.Spec PyProof.Rows L2
/-- the promise of a def that is worth f -/
def spF (z : Zt) (cl : Nat → Value) (f : List D → M D) (np : Nat) : Sp := fun vs H Q E =>
  vs.length = np ∧ ∃ m F w ds, Wf z m F w H ∧ RepAll z m F H vs ds ∧ Post ⟨z, cl, E, H, m, F⟩ m F H (f ds w) (Rep z) Q
/-- how n arguments by position and the others by name bind -/
def KB (K : PySem.W.Frag) (fd : FuncData) (ps : List Str) (n : Nat) : Prop := ∀ (s : Shared) (us ws : List Value), K.In s.heap → us.length = n → us.length + ws.length = ps.length → BindsTo s fd ⟨us, (ps.drop n).zip ws⟩ (ps.zip (us ++ ws))
theorem star_any {env : Env} {pos : Pos} : ∀ {es : List Expr}, es.all notStar = true → (backTo pos (starEach es env)).any (·.1) = false
  | [], _ => rfl
  | e :: es, h => by
    rw [List.all_cons, Bool.and_eq_true] at h
    rw [star_cons h.1]
    show (false || (backTo pos (starEach es env)).any (·.1)) = false
    rw [star_any h.2]
    rfl
def lenEs : Es → Nat
  | .nil => 0
  | .cons _ es => lenEs es + 1
theorem evEs_len {cf : CF} : ∀ (es : Es) (s : Sl) (w : W) (ds : List D) (w' : W), evEs cf es s w = .ok ds w' → ds.length = lenEs es
  | .nil, s, w, ds, w', h => by
    have h : R.ok [] w = R.ok ds w' := by simp only [evEs] at h; exact h
    cases h
    rfl
  | .cons e es, s, w, ds, w', h => by
    have h : bnd (evE cf e s) (fun x => bnd (evEs cf es s) fun r => ret (x :: r)) w = .ok ds w' := by simpa only [evEs] using h
    cases e1 : evE cf e s w with
    | ok x w1 =>
      rw [bnd_ok e1] at h
      cases e2 : evEs cf es s w1 with
      | ok r w2 =>
        rw [bnd_ok e2] at h
        cases h
        rw [List.length_cons, evEs_len es s w1 r _ e2]
        rfl
      | exc c w2 =>
        rw [bnd_exc e2] at h
        cases h
      | bad =>
        rw [bnd_bad e2] at h
        cases h
    | exc c w2 =>
      rw [bnd_exc e1] at h
      cases h
    | bad => rw [bnd_bad e1] at h; cases h
section
variable {X : Cx} {b : Bx} [KEq X b.z] {cf : CF} {k i : Nat} {f : Addr} {fd : FuncData} {ps : List Str} {x : Str} {p pos : Pos} {e : Expr} {es : List Expr} {cs : Es}
theorem call_pre {σ : L2.St} {H : Hp} {Q : VK} (hl : lenEs cs = ps.length) (h : rd b (Rep b.z) (fun s => bnd (evEs cf cs s) fun ds => cf i ds) σ H Q) : tCall (spF b.z b.cl (cf i) ps.length) [] b.E (rA b (evEs cf cs)) σ H Q := by
  obtain ⟨m, F, s, w, wf, sl, p⟩ := h
  have p : Post b m F H (bnd (evEs cf cs s) (fun ds => cf i ds) w) (Rep b.z) Q := p
  refine ⟨m, F, s, w, wf, sl, ?_⟩
  have hlen := evEs_len (cf := cf) cs s w
  cases e1 : evEs cf cs s w with
  | ok ds w1 =>
    rw [bnd_ok e1] at p
    intro m1 F1 H1 vs f1 wf1 r1
    rw [List.append_nil]
    exact ⟨by rw [r1.length, hlen ds w1 e1, hl], m1, F1, w1, ds, wf1, r1, Post.after p f1⟩
  | exc c w1 =>
    rw [bnd_exc e1] at p
    exact p
  | bad =>
    rw [bnd_bad e1] at p
    exact p
theorem se_call (F : FnOk X.prog X.w X.K X.mg X.base (L2.CX X.prog X.w) k f fd ps (spF b.z b.cl (cf i) ps.length)) (hr : Room k X.A) (hg : Gl X x) (hm : X.mg x = some (.ref f)) (hk : PySem.W.keepIn X.K (.ref f) = true) (hb : Binds X.K fd ps []) (tk : Takes X (fun cls d _ H => b.E cls d H))
    (ha : PA X (e :: es) (rA b (evEs cf cs))) (hl : lenEs cs = ps.length) (hs : (e :: es).all notStar = true) (hdb : (x == ("__debug__" : Str)) = false) : PE X (.Call (.Name x p) (e :: es) [] pos) (rE b (evE cf (.call i cs))) := by
  rw [List.all_cons, Bool.and_eq_true] at hs
  exact (pe_call F hr hg hm hk hb .nil (passes_call tk fun _ _ _ _ h => h) ha hdb (star_cons hs.1) (star_any hs.2)).imp fun σ H Q h => call_pre hl (by simpa only [evE] using h)
theorem se_call0 (F : FnOk X.prog X.w X.K X.mg X.base (L2.CX X.prog X.w) k f fd ps (spF b.z b.cl (cf i) ps.length)) (hr : Room k X.A) (hg : Gl X x) (hm : X.mg x = some (.ref f)) (hk : PySem.W.keepIn X.K (.ref f) = true) (hb : Binds X.K fd ps []) (tk : Takes X (fun cls d _ H => b.E cls d H))
    (hl : ps.length = 0) (hdb : (x == ("__debug__" : Str)) = false) : PE X (.Call (.Name x p) [] [] pos) (rE b (evE cf (.call i .nil))) :=
  (pe_call0 F hr hg hm hk hb .nil (passes_call tk fun _ _ _ _ h => h) hdb).imp fun σ H Q h => by
    obtain ⟨m, F, s, w, wf, sl, p⟩ := h
    have p : Post b m F H (cf i [] w) (Rep b.z) Q := by simp only [evE, evEs] at p; exact p
    exact ⟨hl.symm, m, F, w, [], wf, .nil, p⟩
/-- arguments by name -/
theorem sk_nil : PK X [] (rA b (evEs cf .nil)) := ⟨fun pos pins s σ H Q I ⟨m, F, sl, w, wf, sr, p⟩ => pk_nil.run pos pins s σ H Q I (p m F H [] (Fm.refl _ _ _) wf .nil)⟩
theorem sk_cons {nm : Option Str} {kpos : Pos} {kws : List Keyword} {c : E} (he : PE X e (rE b (evE cf c))) (hes : PK X kws (rA b (evEs cf cs))) : PK X (⟨nm, e, kpos⟩ :: kws) (rA b (evEs cf (.cons c cs))) :=
  ⟨fun pos pins s σ H Q I h => (pk_cons he hes).run pos pins s σ H Q I (by
    obtain ⟨m, F, s, w, wf, sl, p⟩ := h
    have p : Post b m F H (bnd (evE cf c s) (fun x => bnd (evEs cf cs s) fun r => ret (x :: r)) w) (RepAll b.z) Q := by simpa only [evEs] using p
    refine ⟨m, F, s, w, wf, sl, (p.bind).imp fun x H1 ⟨m1, F1, d, w1, f1, wf1, r1, p1⟩ => ?_⟩
    refine ⟨m1, F1, s, w1, wf1, sl.fm wf f1, (p1.bind).imp fun xs H2 ⟨m2, F2, ds, w2, f2, wf2, r2, p2⟩ => ?_⟩
    exact p2 m2 F2 H2 _ (Fm.refl _ _ _) wf2 (.cons (wf1.rep f2 r1) r2))⟩
def appEs : Es → Es → Es
  | .nil, e => e
  | .cons a r, e => .cons a (appEs r e)
theorem bnd_assoc {α β γ : Type} (x : M α) (f : α → M β) (g : β → M γ) : bnd (bnd x f) g = bnd x fun a => bnd (f a) g := by
  funext w
  unfold bnd
  cases x w <;> rfl
theorem evEs_app (s : Sl) : ∀ (a c : Es) , evEs cf (appEs a c) s = bnd (evEs cf a s) fun xs => bnd (evEs cf c s) fun ys => ret (xs ++ ys)
  | .nil, c => by
    simp only [appEs, evEs]
    funext w
    show _ = bnd (evEs cf c s) ret w
    rw [bnd_ret]
  | .cons e r, c => by
    simp only [appEs, evEs]
    rw [bnd_assoc]
    congr 1
    funext x
    rw [evEs_app s r c, bnd_assoc, bnd_assoc]
    congr 1
    funext xs
    rw [bnd_assoc]
    rfl
def kwOk (ks : List Str) : List Keyword → Bool
  | [] => ks.isEmpty
  | ⟨some n, _, _⟩ :: r => match ks with
    | k :: ks' => (n == k) && kwOk ks' r
    | [] => false
  | ⟨none, _, _⟩ :: _ => false
theorem kw_all {env : Env} : ∀ {ks : List Str} {kws : List Keyword}, kwOk ks kws = true → (backToKw pos (keywordEach kws env)).all (·.1.isSome) = true ∧ (backToKw pos (keywordEach kws env)).filterMap (·.1) = ks ∧ (backToKw pos (keywordEach kws env)).any (·.1.isNone) = false
  | ks, [], h => by
    have : ks = [] := by simpa [kwOk] using h
    subst this
    exact ⟨rfl, rfl, rfl⟩
  | ks, ⟨some n, v, q⟩ :: r, h => by
    cases ks with
    | nil => simp [kwOk] at h
    | cons k ks =>
      unfold kwOk at h
      rw [Bool.and_eq_true] at h
      obtain ⟨h1, h2, h3⟩ := kw_all (env := env) h.2
      have en : n = k := beq_iff_eq.mp h.1
      subst en
      refine ⟨?_, ?_, ?_⟩
      · show (true && (backToKw pos (keywordEach r env)).all (·.1.isSome)) = true
        rw [h1]; rfl
      · show n :: (backToKw pos (keywordEach r env)).filterMap (·.1) = _
        rw [h2]
      · show (false || (backToKw pos (keywordEach r env)).any (·.1.isNone)) = false
        rw [h3]; rfl
  | _, ⟨none, _, _⟩ :: _, h => by simp [kwOk] at h
theorem run_kb {pins : List (Addr × Obj)} {σ : L2.St} {H : Hp} {s : Shared} {Q : VK} {n : Nat} {us ws : List Value} {vs zs : List V} {sp : Sp} (F : FnOk X.prog X.w X.K X.mg X.base (L2.CX X.prog X.w) k f fd ps sp) (hr : Room k X.A) (hb : KB X.K fd ps n) (hx : Passes (L2.CX X.prog X.w) X b.E)
    (I : Inv X pins σ H s) (r : Vals vs us) (rz : Vals zs ws) (hn : vs.length = n) (h : sp (vs ++ zs) H Q b.E) : wpAny (model X.prog X.w) X.A (call (.ref f) us ((ps.drop n).zip ws)) (EP X pins σ Q) X.xe s := by
  have r2 := r.append rz
  have hl : us.length + ws.length = ps.length := by
    have := F.len _ _ _ _ h
    rw [List.length_append] at this
    rw [← r.length, ← rz.length]
    exact this
  refine wpAny_call (codeAny_mono (F.run X.A X.stack s H ⟨us, (ps.drop n).zip ws⟩ (us ++ ws) (vs ++ zs) Q b.E hr I.env0 (hb s us ws I.kIn (by rw [← r.length]; exact hn) hl) r2 h) fun r s' hq => ?_)
  cases r with
  | error e => exact hx pins σ H s e s' I hq
  | ok fl =>
    cases fl with
    | ret u => exact I.after hq
    | next => exact False.elim hq
    | brk => exact False.elim hq
    | cont => exact False.elim hq
theorem callk_pre {cs ks : Es} {σ : L2.St} {H : Hp} {Q : VK} (hl : lenEs cs + lenEs ks = ps.length) (h : rd b (Rep b.z) (fun s => bnd (evEs cf (appEs cs ks) s) fun ds => cf i ds) σ H Q) :
    rA b (evEs cf cs) σ H fun vs H1 => vs.length = lenEs cs ∧ rA b (evEs cf ks) σ H1 fun zs H2 => spF b.z b.cl (cf i) ps.length (vs ++ zs) H2 Q b.E := by
  obtain ⟨m, F, s, w, wf, sl, p⟩ := h
  have p : Post b m F H (bnd (evEs cf cs s) (fun xs => bnd (evEs cf ks s) fun ys => cf i (xs ++ ys)) w) (Rep b.z) Q := by
    have p : Post b m F H (bnd (evEs cf (appEs cs ks) s) (fun ds => cf i ds) w) (Rep b.z) Q := p
    rw [evEs_app, bnd_assoc] at p
    have e : (fun a => bnd (bnd (evEs cf ks s) fun ys => ret (a ++ ys)) fun ds => cf i ds) = fun xs => bnd (evEs cf ks s) fun ys => cf i (xs ++ ys) := by
      funext a
      rw [bnd_assoc]
      rfl
    rw [e] at p
    exact p
  have hlen := evEs_len (cf := cf) cs s w
  have hl2 := evEs_len (cf := cf) ks s
  refine ⟨m, F, s, w, wf, sl, ?_⟩
  cases e1 : evEs cf cs s w with
  | ok ds w1 =>
    rw [bnd_ok e1] at p
    intro m1 F1 H1 vs f1 wf1 r1
    refine ⟨by rw [r1.length, hlen ds w1 e1], m1, F1, s, w1, wf1, sl.fm wf f1, ?_⟩
    cases e2 : evEs cf ks s w1 with
    | ok ds2 w2 =>
      rw [bnd_ok e2] at p
      intro m2 F2 H2 zs f2 wf2 r2
      exact ⟨by rw [List.length_append, r1.length, r2.length, hlen ds w1 e1, hl2 w1 ds2 w2 e2, hl], m2, F2, w2, ds ++ ds2, wf2, (wf1.repAll f2 r1).append r2, Post.after p (f1.trans f2)⟩
    | exc c w2 =>
      rw [bnd_exc e2] at p
      exact fun m' F' H' g => p m' F' H' (f1.trans g)
    | bad =>
      rw [bnd_bad e2] at p
      exact p
  | exc c w1 =>
    rw [bnd_exc e1] at p
    exact p
  | bad =>
    rw [bnd_bad e1] at p
    exact p
theorem se_callk {kws : List Keyword} {ks : Es} (F : FnOk X.prog X.w X.K X.mg X.base (L2.CX X.prog X.w) k f fd ps (spF b.z b.cl (cf i) ps.length)) (hr : Room k X.A) (hg : Gl X x) (hm : X.mg x = some (.ref f)) (hk : PySem.W.keepIn X.K (.ref f) = true) (hb : KB X.K fd ps (lenEs cs)) (tk : Takes X (fun cls d _ H => b.E cls d H))
    (ha : PA X (e :: es) (rA b (evEs cf cs))) (hkw : PK X kws (rA b (evEs cf ks))) (hl : lenEs cs + lenEs ks = ps.length) (hs : (e :: es).all notStar = true) (ho : kwOk (ps.drop (lenEs cs)) kws = true) (hdb : (x == ("__debug__" : Str)) = false) :
    PE X (.Call (.Name x p) (e :: es) kws pos) (rE b (evE cf (.call i (appEs cs ks)))) := by
  have hsa := hs
  rw [List.all_cons, Bool.and_eq_true] at hs
  obtain ⟨k1, k2, k3⟩ := kw_all (pos := pos) (env := X.env) ho
  refine ⟨fun pins s σ H Q I h => ?_⟩
  have h := callk_pre hl (show rd b (Rep b.z) (fun s => bnd (evEs cf (appEs cs ks) s) fun ds => cf i ds) σ H Q by simpa only [evE] using h)
  refine wpAny_Call_Name_kw (ld_glob I hg hm ?_ hdb)
  refine PySem.W.callWith_KW (h₀ := X.base) I.ok.mod.kin hk k1 (thn (ha.run pos pins s σ H _ I h) fun us s1 ⟨vs, H1, I1, r, hn, q⟩ => ?_) (by rw [star_any hsa, k3]; rfl) (star_cons hs.1)
  refine thn (hkw.run pos pins s1 σ H1 _ I1 q) fun ws s2 ⟨zs, H2, I2, rz, q2⟩ => ⟨I2.kIn, ?_⟩
  rw [k2]
  exact run_kb F hr hb (passes_call tk fun _ _ _ _ h => h) I2 r rz hn q2
theorem se_callk0 {kws : List Keyword} {ks : Es} (F : FnOk X.prog X.w X.K X.mg X.base (L2.CX X.prog X.w) k f fd ps (spF b.z b.cl (cf i) ps.length)) (hr : Room k X.A) (hg : Gl X x) (hm : X.mg x = some (.ref f)) (hk : PySem.W.keepIn X.K (.ref f) = true) (hb : KB X.K fd ps 0) (tk : Takes X (fun cls d _ H => b.E cls d H))
    (hkw : PK X kws (rA b (evEs cf ks))) (hl : lenEs ks = ps.length) (ho : kwOk ps kws = true) (hdb : (x == ("__debug__" : Str)) = false) :
    PE X (.Call (.Name x p) [] kws pos) (rE b (evE cf (.call i ks))) := by
  obtain ⟨k1, k2, k3⟩ := kw_all (pos := pos) (env := X.env) ho
  refine ⟨fun pins s σ H Q I h => ?_⟩
  have h := call_pre hl (show rd b (Rep b.z) (fun s => bnd (evEs cf ks s) fun ds => cf i ds) σ H Q by simpa only [evE] using h)
  refine wpAny_Call_Name_kw (ld_glob I hg hm ?_ hdb)
  refine PySem.W.callWith_KW0 (h₀ := X.base) I.ok.mod.kin hk k1 (thn (hkw.run pos pins s σ H _ I h) fun ws s2 ⟨zs, H2, I2, rz, q2⟩ => ⟨I2.kIn, ?_⟩) (by rw [k3]; rfl)
  rw [k2]
  have q2 : spF b.z b.cl (cf i) ps.length (zs ++ []) H2 Q b.E := q2
  rw [List.append_nil] at q2
  exact run_kb (us := []) (vs := []) (n := 0) F hr hb (passes_call tk fun _ _ _ _ h => h) I2 .nil rz rfl q2
end
end Ev

set_option Elab.async false
set_option linter.all false
set_option maxRecDepth 100000
set_option autoImplicit false
namespace Ev
open PySem PySem.Spec PyProof.Rows L2
/-- the state between two statements -/
structure RelS (b : Bx) (m : Mu) (F : Fz) (s : Sl) (w : W) (σ : L2.St) (H : Hp) : Prop where
  wf : Wf b.z m F w H
  sl : SlR b.z m F b.H0 s σ H
  fm : Fm b.m0 b.F0 b.H0 m F H
def PostS (b : Bx) (m : Mu) (F : Fz) (H : Hp) (r : R Fl) (D : Ends) : Prop :=
  match r with
  | .ok (.nx s') w' => ∀ m' F' H' σ', Fk m F H m' F' H' → RelS b m' F' s' w' σ' H' → D.nx σ' H'
  | .ok (.ct s') w' => ∀ m' F' H' σ', Fk m F H m' F' H' → RelS b m' F' s' w' σ' H' → D.ct σ' H'
  | .ok (.rt d) w' => ∀ m' F' H' v, Wf b.z m' F' w' H' → Fm b.m0 b.F0 b.H0 m' F' H' → Rep b.z m' F' H' v d → D.rt v H'
  | .exc c w' => ∀ m' F' H', Wf b.z m' F' w' H' → Fm b.m0 b.F0 b.H0 m' F' H' → b.E (b.cl c) none H'
  | .bad => False
def rS (b : Bx) (f : Sl → M Fl) : TS := fun D σ H => ∃ m F s w, RelS b m F s w σ H ∧ PostS b m F H (f s w) D
section
variable {α β : Type} {b : Bx} {m m1 : Mu} {F F1 : Fz} {H H1 : Hp} {D D' : Ends} {w : W}
theorem PostS.after {r : R Fl} (h : PostS b m F H r D) (f : Fk m F H m1 F1 H1) : PostS b m1 F1 H1 r D := by
  cases r with
  | ok d w' =>
    cases d with
    | nx s' => exact fun m' F' H' σ' g => h m' F' H' σ' (f.trans g)
    | ct s' => exact fun m' F' H' σ' g => h m' F' H' σ' (f.trans g)
    | rt d => exact h
  | exc c w' => exact h
  | bad => exact h
theorem PostS.bind {x : M α} {k : α → M Fl} {Rl : Mu → Fz → Hp → β → α → Prop} (fm : Fm b.m0 b.F0 b.H0 m F H) (wf : Wf b.z m F w H) (h : PostS b m F H (bnd x k w) D) :
    Post b m F H (x w) Rl (fun v H1 => ∃ m1 F1 d w1, Fm m F H m1 F1 H1 ∧ Wf b.z m1 F1 w1 H1 ∧ Rl m1 F1 H1 v d ∧ PostS b m1 F1 H1 (k d w1) D) := by
  cases e : x w with
  | ok d w' =>
    rw [bnd_ok e] at h
    exact fun m' F' H' v g wf' rl => ⟨m', F', d, w', g, wf', rl, PostS.after h (wf.fk g)⟩
  | exc c w' =>
    rw [bnd_exc e] at h
    exact fun m' F' H' g wf' => h m' F' H' wf' (fm.trans g)
  | bad =>
    rw [bnd_bad e] at h
    exact h
theorem PostS.lift {o : Option α} {k : α → M Fl} (h : PostS b m F H (bnd (Ev.lift o) k w) D) : ∃ a, o = some a ∧ PostS b m F H (k a w) D := by
  cases o with
  | none => exact h.elim
  | some a => exact ⟨a, rfl, h⟩
end
theorem RelS.step {b : Bx} {m m' : Mu} {F F' : Fz} {s : Sl} {w w' : W} {σ : L2.St} {H H' : Hp} (x : RelS b m F s w σ H) (f : Fm m F H m' F' H') (wf : Wf b.z m' F' w' H') : RelS b m' F' s w' σ H' := ⟨wf, x.sl.fm x.wf f, x.fm.trans f⟩

def FreshR (z : Zt) (Hs : Hp) (m : Mu) (F : Fz) (H : Hp) (v : V) (d : D) : Prop := ∃ a, v = .ref a ∧ Hs a = none ∧ ¬ F a ∧ a ∉ m.flatten ∧
  ((∃ vs ds, d = .list ds ∧ H a = some (.lst vs) ∧ RepAll z m F H vs ds) ∨ ∃ o kvs, d = .dict kvs ∧ H a = some o ∧ RepD z m F H a o kvs)
def rF (b : Bx) (f : Sl → M D) : TE := fun σ H Q => ∃ m F s w, Wf b.z m F w H ∧ SlR b.z m F b.H0 s σ H ∧ Post b m F H (f s w) (FreshR b.z H) Q
theorem wf_new {z : Zt} {m : Mu} {F : Fz} {w : W} {H : Hp} (wf : Wf z m F w H) {a : Addr} (h : H a = none) : ¬ F a ∧ a ∉ m.flatten := by
  constructor
  · intro hF
    obtain ⟨o, ho⟩ := wf.dom a hF
    rw [h] at ho
    cases ho
  · intro hm
    obtain ⟨o, ho⟩ := wf.mdom a hm
    rw [h] at ho
    cases ho
section
variable {X : Cx} {b : Bx} [KEq X b.z] {cf : CF} {fu : Nat} {e : Expr} {c : E} {pos : Pos}
theorem sf_lst {es : List Expr} {cs : Es} (h : PA X es (rA b (evEs cf cs))) : PE X (.List es pos) (rF b (evE cf (.lst cs))) :=
  (pe_lst h).imp fun σ H Q ⟨m, F, s, w, wf, sl, p⟩ => by
    have p : Post b m F H (bnd (evEs cf cs s) (fun ds => if ds.length ≤ LIM then ret (.list ds) else bad) w) (FreshR b.z H) Q := by simpa only [evE] using p
    refine ⟨m, F, s, w, wf, sl, (p.bind).imp fun vs H1 ⟨m1, F1, ds, w1, f1, wf1, r1, p1⟩ => ?_⟩
    by_cases hl : ds.length ≤ LIM
    · rw [if_pos hl] at p1
      refine ⟨by rw [r1.length, ← lim_eq]; exact hl, fun q hq => p1 m1 F1 _ _ (Fm.laid hq) (wf1.laid hq) ⟨q, rfl, f1.unlaid hq, (wf_new wf1 hq).1, (wf_new wf1 hq).2, .inl ⟨vs, ds, rfl, upd_same, wf1.repAll (Fm.laid hq) r1⟩⟩⟩
    · rw [if_neg hl] at p1
      exact p1.elim
theorem sf_dnew : PE X (.Dict [] [] pos) (rF b (evE cf .dnew)) :=
  pe_dnewK.imp fun σ H Q ⟨m, F, s, w, wf, sl, p⟩ => by
    have p : Post b m F H (R.ok (.dict []) w) (FreshR b.z H) Q := by simp only [evE] at p; exact p
    exact fun q hq => p m F _ _ (Fm.laid hq) (wf.laid hq) ⟨q, rfl, hq, (wf_new wf hq).1, (wf_new wf hq).2, .inr ⟨.dK [], [], rfl, upd_same, .k .nil⟩⟩
/-- a comprehension's list, frozen or new -/
theorem comp_strict {σ : L2.St} {H : Hp} {Q : VK} {own : List (Str × Nat)} {tgc : Tg} {itc : I} {ifc : Ts} {ec : E} (hsl : ∀ j ∈ slotsT tgc, j ∈ own.map (·.2)) (h : rE b (evE cf (.comp ec tgc itc ifc (own.map (·.2)))) σ H Q) :
    tLc (rI b (g := isTT tgc) (evI cf itc)) (rG b.no tgc) (rT b.no (evTs cf ifc)) (rE b.no (evE cf ec)) (own.map (·.2)) σ H Q :=
  comp_pre (Rl := Rep b.z) hsl (fun m F Hx w a vs ds m1 F1 H1 _ f h0 wf nF nM ha hr Q p => p m (frzA F a) Hx _ (f.frz0 h0) (wf.frz ha nM) (.lst (.inr rfl) ha (hr.mono (Kp.refl _ _) (fun _ h => .inl h) (fun _ _ h => h)))) (by
    have e : evE cf (.comp ec tgc itc ifc (own.map (·.2))) = fun s => bnd (evI cf itc s) fun ds => bnd (nox (compL (turnC cf ec tgc ifc (wipeA s (own.map (·.2)))) ds)) fun r => ret (.list r) := by
      funext s
      simp only [evE]
      rfl
    rw [← e]
    exact h)
end

theorem isMut_setM {s : Sl} {i j : Nat} {sv : SV} (h : isMut (s.set i (some sv)) j) (hj : j ≠ i) : isMut s j := by
  rcases h with ⟨xs, e⟩ | ⟨kvs, e⟩
  · rw [List.getElem?_set_ne (Ne.symm hj)] at e
    exact .inl ⟨xs, e⟩
  · rw [List.getElem?_set_ne (Ne.symm hj)] at e
    exact .inr ⟨kvs, e⟩
/-- what a slot owns -/
def OwnR (z : Zt) (m : Mu) (F : Fz) (H : Hp) (a : Addr) : SV → Prop
  | .i _ => False
  | .l xs => ∃ vs, H a = some (.lst vs) ∧ RepAll z m F H vs xs
  | .m kvs => ∃ o, H a = some o ∧ RepD z m F H a o kvs
section
variable {z : Zt} {m : Mu} {F : Fz} {H0 H : Hp} {s : Sl} {σ : L2.St}
theorem SlR.setM (x : SlR z m F H0 s σ H) {i : Nat} {a : Addr} {sv : SV} (hi : i < s.length) (ho : OwnR z m F H a sv) (nF : ¬ F a) (nM : a ∉ m.flatten) (h0 : H0 a = none) (ne : ∀ j, j ≠ i → isMut s j → σ[j]? ≠ some (some (.ref a))) : SlR z m F H0 (s.set i (some sv)) (σ.set i (some (.ref a))) H := by
  have hiσ : i < σ.length := by rw [← x.len]; exact hi
  refine ⟨by rw [List.length_set, List.length_set]; exact x.len, fun j d e => ?_, fun j xs e => ?_, fun j xs e => ?_, fun j c hm hc => ?_, fun j k c h1 h2 e1 e2 => ?_⟩
  · by_cases hj : j = i
    · subst hj
      rw [List.getElem?_set_self hi] at e
      cases e
      exact ho.elim
    · rw [List.getElem?_set_ne (Ne.symm hj)] at e
      obtain ⟨v, e1, r⟩ := x.imm j d e
      exact ⟨v, by rw [List.getElem?_set_ne (Ne.symm hj)]; exact e1, r⟩
  · by_cases hj : j = i
    · subst hj
      rw [List.getElem?_set_self hi] at e
      cases e
      obtain ⟨vs, h1, h2⟩ := ho
      exact ⟨a, vs, by rw [List.getElem?_set_self hiσ], h1, h2⟩
    · rw [List.getElem?_set_ne (Ne.symm hj)] at e
      obtain ⟨c, vs, e1, r⟩ := x.lst j xs e
      exact ⟨c, vs, by rw [List.getElem?_set_ne (Ne.symm hj)]; exact e1, r⟩
  · by_cases hj : j = i
    · subst hj
      rw [List.getElem?_set_self hi] at e
      cases e
      obtain ⟨vs, h1, h2⟩ := ho
      exact ⟨a, vs, by rw [List.getElem?_set_self hiσ], h1, h2⟩
    · rw [List.getElem?_set_ne (Ne.symm hj)] at e
      obtain ⟨c, vs, e1, r⟩ := x.dct j xs e
      exact ⟨c, vs, by rw [List.getElem?_set_ne (Ne.symm hj)]; exact e1, r⟩
  · by_cases hj : j = i
    · subst hj
      rw [List.getElem?_set_self hiσ] at hc
      cases hc
      exact ⟨nF, nM, h0⟩
    · rw [List.getElem?_set_ne (Ne.symm hj)] at hc
      exact x.free j c (isMut_setM hm hj) hc
  · by_cases hj : j = i
    · by_cases hk : k = i
      · rw [hj, hk]
      · exfalso
        subst hj
        rw [List.getElem?_set_self hiσ] at e1
        cases e1
        rw [List.getElem?_set_ne (Ne.symm hk)] at e2
        exact ne k hk (isMut_setM h2 hk) e2
    · by_cases hk : k = i
      · exfalso
        subst hk
        rw [List.getElem?_set_self hiσ] at e2
        cases e2
        rw [List.getElem?_set_ne (Ne.symm hj)] at e1
        exact ne j hj (isMut_setM h1 hj) e1
      · rw [List.getElem?_set_ne (Ne.symm hj)] at e1
        rw [List.getElem?_set_ne (Ne.symm hk)] at e2
        exact x.inj j k c (isMut_setM h1 hj) (isMut_setM h2 hk) e1 e2
/-- an owned slot is left, its object written or locked -/
theorem SlR.leave (x : SlR z m F H0 s σ H) {i : Nat} {a : Addr} {o : HO} (hi : isMut s i) (ha : σ[i]? = some (some (.ref a))) : SlR z m F H0 (s.set i none) σ (upd H a o) := by
  obtain ⟨nF, nM, h0⟩ := x.free i a hi ha
  have hl : i < s.length := by
    rcases hi with ⟨xs, e⟩ | ⟨xs, e⟩
    · exact (List.getElem?_eq_some_iff.mp e).1
    · exact (List.getElem?_eq_some_iff.mp e).1
  have kp : Kp F H (upd H a o) := Kp.updA nF
  have ne : ∀ j, j ≠ i → isMut s j → ∀ c, σ[j]? = some (some (.ref c)) → c ≠ a := fun j hj hm c hc e => by
    subst e
    exact hj (x.inj j i c hm hi hc ha)
  have key : ∀ (j : Nat) (sv : SV), (s.set i none)[j]? = some (some sv) → j ≠ i ∧ s[j]? = some (some sv) := fun j sv e => by
    by_cases hj : j = i
    · subst hj
      rw [List.getElem?_set_self hl] at e
      cases e
    · rw [List.getElem?_set_ne (Ne.symm hj)] at e
      exact ⟨hj, e⟩
  have mt : ∀ j, isMut (s.set i none) j → j ≠ i ∧ isMut s j := fun j h => by
    rcases h with ⟨xs, e⟩ | ⟨kvs, e⟩
    · exact ⟨(key j _ e).1, .inl ⟨xs, (key j _ e).2⟩⟩
    · exact ⟨(key j _ e).1, .inr ⟨kvs, (key j _ e).2⟩⟩
  refine ⟨by rw [List.length_set]; exact x.len, fun j d e => ?_, fun j xs e => ?_, fun j xs e => ?_, fun j c hm hc => x.free j c (mt j hm).2 hc, fun j k c h1 h2 e1 e2 => x.inj j k c (mt j h1).2 (mt k h2).2 e1 e2⟩
  · obtain ⟨hj, e'⟩ := key j _ e
    obtain ⟨v, e1, r⟩ := x.imm j d e'
    exact ⟨v, e1, r.mono kp (fun _ h => h) (fun _ _ h => h)⟩
  · obtain ⟨hj, e'⟩ := key j _ e
    obtain ⟨c, vs, e1, e2, r⟩ := x.lst j xs e'
    exact ⟨c, vs, e1, by rw [upd_ne (ne j hj (.inl ⟨xs, e'⟩) c e1)]; exact e2, r.mono kp (fun _ h => h) (fun _ _ h => h)⟩
  · obtain ⟨hj, e'⟩ := key j _ e
    obtain ⟨c, vs, e1, e2, r⟩ := x.dct j xs e'
    exact ⟨c, vs, e1, by rw [upd_ne (ne j hj (.inr ⟨xs, e'⟩) c e1)]; exact e2, r.mono kp (fun _ h => h) (fun _ _ h => h)⟩
theorem SlR.same {i : Nat} {a : Addr} {v : V} (hl : i < σ.length) (ha : σ[i]? = some (some v)) : σ.set i (some v) = σ := by
  refine List.ext_getElem? fun j => ?_
  by_cases hj : j = i
  · subst hj
    rw [List.getElem?_set_self hl, ha]
  · rw [List.getElem?_set_ne (Ne.symm hj)]
/-- an owned dict is locked and frozen -/
theorem SlR.lockD (x : SlR z m F H0 s σ H) {i : Nat} {a : Addr} {o : HO} {od : Obj} {ds : List (D × D)} (hi : isMut s i) (ha : σ[i]? = some (some (.ref a))) (r : RepD z m F H a o ds) : SlR z m (frzA F a) H0 (s.set i (some (.i (.dict ds)))) σ (upd H a (.frz od o)) := by
  obtain ⟨nF, nM, h0⟩ := x.free i a hi ha
  have hl : i < s.length := by
    rcases hi with ⟨xs, e⟩ | ⟨xs, e⟩
    · exact (List.getElem?_eq_some_iff.mp e).1
    · exact (List.getElem?_eq_some_iff.mp e).1
  have y := x.leave (o := .frz od o) hi ha
  have mt : ∀ j, isMut (s.set i none) j → j ≠ i ∧ isMut s j := fun j h => by
    have hj : j ≠ i := fun e => by
      subst e
      rcases h with ⟨xs, e⟩ | ⟨xs, e⟩
      · rw [List.getElem?_set_self hl] at e; cases e
      · rw [List.getElem?_set_self hl] at e; cases e
    refine ⟨hj, ?_⟩
    rcases h with ⟨xs, e⟩ | ⟨xs, e⟩
    · rw [List.getElem?_set_ne (Ne.symm hj)] at e; exact .inl ⟨xs, e⟩
    · rw [List.getElem?_set_ne (Ne.symm hj)] at e; exact .inr ⟨xs, e⟩
  have g : ∀ b, F b → frzA F a b := fun b h => .inl h
  have y2 : SlR z m (frzA F a) H0 (s.set i none) σ (upd H a (.frz od o)) := ⟨y.len, fun j d e => by
    obtain ⟨v, e1, r⟩ := y.imm j d e
    exact ⟨v, e1, r.mono (Kp.refl _ _) g (fun _ _ h => h)⟩, fun j xs e => by
    obtain ⟨c, vs, e1, e2, r⟩ := y.lst j xs e
    exact ⟨c, vs, e1, e2, r.mono (Kp.refl _ _) g (fun _ _ h => h)⟩, fun j xs e => by
    obtain ⟨c, vs, e1, e2, r⟩ := y.dct j xs e
    exact ⟨c, vs, e1, e2, r.mono (Kp.refl _ _) g (fun _ _ h => h)⟩, fun j c hm hc => by
    obtain ⟨h1, h2, h3⟩ := y.free j c hm hc
    refine ⟨fun q => ?_, h2, h3⟩
    rcases q with q | q
    · exact h1 q
    · subst q
      exact (mt j hm).1 (x.inj j i c (mt j hm).2 hi hc ha), y.inj⟩
  have y3 := y2.setI (i := i) (v := .ref a) (d := .dict ds) (.dK (.inr rfl) upd_same (r.mono (Kp.updA nF) g (fun _ _ h => h))) (by rw [List.length_set]; exact hl)
  rw [List.set_set, SlR.same (a := a) (by rw [← x.len]; exact hl) ha] at y3
  exact y3
/-- the object of an owned slot is written -/
theorem SlR.write (x : SlR z m F H0 s σ H) {i : Nat} {a : Addr} {sv : SV} {o : HO} (hi : isMut s i) (ha : σ[i]? = some (some (.ref a))) (ho : OwnR z m F (upd H a o) a sv) : SlR z m F H0 (s.set i (some sv)) σ (upd H a o) := by
  obtain ⟨nF, nM, h0⟩ := x.free i a hi ha
  have hl : i < s.length := by
    rcases hi with ⟨xs, e⟩ | ⟨xs, e⟩
    · exact (List.getElem?_eq_some_iff.mp e).1
    · exact (List.getElem?_eq_some_iff.mp e).1
  have kp : Kp F H (upd H a o) := Kp.updA nF
  have ne : ∀ j, j ≠ i → isMut s j → ∀ c, σ[j]? = some (some (.ref c)) → c ≠ a := fun j hj hm c hc e => by
    subst e
    exact hj (x.inj j i c hm hi hc ha)
  have y : SlR z m F H0 (s.set i none) σ (upd H a o) := by
    have key : ∀ (j : Nat) (sv : SV), (s.set i none)[j]? = some (some sv) → j ≠ i ∧ s[j]? = some (some sv) := fun j sv e => by
      by_cases hj : j = i
      · subst hj
        rw [List.getElem?_set_self hl] at e
        cases e
      · rw [List.getElem?_set_ne (Ne.symm hj)] at e
        exact ⟨hj, e⟩
    have mt : ∀ j, isMut (s.set i none) j → j ≠ i ∧ isMut s j := fun j h => by
      rcases h with ⟨xs, e⟩ | ⟨kvs, e⟩
      · exact ⟨(key j _ e).1, .inl ⟨xs, (key j _ e).2⟩⟩
      · exact ⟨(key j _ e).1, .inr ⟨kvs, (key j _ e).2⟩⟩
    refine ⟨by rw [List.length_set]; exact x.len, fun j d e => ?_, fun j xs e => ?_, fun j xs e => ?_, fun j c hm hc => x.free j c (mt j hm).2 hc, fun j k c h1 h2 e1 e2 => x.inj j k c (mt j h1).2 (mt k h2).2 e1 e2⟩
    · obtain ⟨hj, e'⟩ := key j _ e
      obtain ⟨v, e1, r⟩ := x.imm j d e'
      exact ⟨v, e1, r.mono kp (fun _ h => h) (fun _ _ h => h)⟩
    · obtain ⟨hj, e'⟩ := key j _ e
      obtain ⟨c, vs, e1, e2, r⟩ := x.lst j xs e'
      exact ⟨c, vs, e1, by rw [upd_ne (ne j hj (.inl ⟨xs, e'⟩) c e1)]; exact e2, r.mono kp (fun _ h => h) (fun _ _ h => h)⟩
    · obtain ⟨hj, e'⟩ := key j _ e
      obtain ⟨c, vs, e1, e2, r⟩ := x.dct j xs e'
      exact ⟨c, vs, e1, by rw [upd_ne (ne j hj (.inr ⟨xs, e'⟩) c e1)]; exact e2, r.mono kp (fun _ h => h) (fun _ _ h => h)⟩
  have z1 := y.setM (i := i) (sv := sv) (by rw [List.length_set]; exact hl) ho nF nM h0 fun j hj hm hc => by
    rcases hm with ⟨xs, e⟩ | ⟨xs, e⟩
    · rw [List.getElem?_set_ne (Ne.symm hj)] at e
      exact ne j hj (.inl ⟨xs, e⟩) a hc rfl
    · rw [List.getElem?_set_ne (Ne.symm hj)] at e
      exact ne j hj (.inr ⟨xs, e⟩) a hc rfl
  rw [List.set_set] at z1
  have eσ : σ.set i (some (.ref a)) = σ := by
    refine List.ext_getElem? fun j => ?_
    by_cases hj : j = i
    · subst hj
      rw [List.getElem?_set_self (by rw [← x.len]; exact hl), ha]
    · rw [List.getElem?_set_ne (Ne.symm hj)]
  rw [eσ] at z1
  exact z1
/-- an owned slot is frozen -/
theorem SlR.freeze (x : SlR z m F H0 s σ H) {i : Nat} {a : Addr} {d : D} (hi : isMut s i) (ha : σ[i]? = some (some (.ref a))) (r : Rep z m (frzA F a) H (.ref a) d) : SlR z m (frzA F a) H0 (s.set i (some (.i d))) σ H := by
  have hl : i < s.length := by
    rcases hi with ⟨xs, e⟩ | ⟨xs, e⟩
    · exact (List.getElem?_eq_some_iff.mp e).1
    · exact (List.getElem?_eq_some_iff.mp e).1
  refine ⟨by rw [List.length_set]; exact x.len, fun j d' e => ?_, fun j xs e => ?_, fun j xs e => ?_, fun j c hm hc => ?_, fun j k c h1 h2 e1 e2 => x.inj j k c (isMut_set h1).2 (isMut_set h2).2 e1 e2⟩
  · by_cases hj : j = i
    · subst hj
      rw [List.getElem?_set_self hl] at e
      cases e
      exact ⟨_, ha, r⟩
    · rw [List.getElem?_set_ne (Ne.symm hj)] at e
      obtain ⟨v, e1, r1⟩ := x.imm j d' e
      exact ⟨v, e1, r1.mono (Kp.refl _ _) (fun _ h => .inl h) (fun _ _ h => h)⟩
  · obtain ⟨hj, _⟩ := isMut_set (.inl ⟨xs, e⟩)
    rw [List.getElem?_set_ne (Ne.symm hj)] at e
    obtain ⟨c, vs, e1, e2, r1⟩ := x.lst j xs e
    exact ⟨c, vs, e1, e2, r1.mono (Kp.refl _ _) (fun _ h => .inl h) (fun _ _ h => h)⟩
  · obtain ⟨hj, _⟩ := isMut_set (.inr ⟨xs, e⟩)
    rw [List.getElem?_set_ne (Ne.symm hj)] at e
    obtain ⟨c, vs, e1, e2, r1⟩ := x.dct j xs e
    exact ⟨c, vs, e1, e2, r1.mono (Kp.refl _ _) (fun _ h => .inl h) (fun _ _ h => h)⟩
  · obtain ⟨hj, hm'⟩ := isMut_set hm
    obtain ⟨h1, h2, h3⟩ := x.free j c hm' hc
    refine ⟨fun q => ?_, h2, h3⟩
    rcases q with q | q
    · exact h1 q
    · subst q
      exact hj (x.inj j i c hm' hi hc ha)
end
end Ev

set_option Elab.async false
set_option linter.all false
set_option maxRecDepth 100000
set_option autoImplicit false
namespace Ev
open PySem PySem.Spec PyProof.Rows L2
def notComp : Expr → Bool
  | .ListComp .. => false
  | .SetComp .. => false
  | .DictComp .. => false
  | _ => true
theorem swaps_no {e : Expr} {t : Option Expr} {l : Nat} {env : Env} (h : notComp e = true) : swapsWith e t l env = pure false := by
  cases e <;> first | rfl | (exact absurd h (by simp [notComp]))
def notTup : Expr → Bool
  | .Tuple .. => false
  | .List .. => false
  | _ => true
theorem stores_no {tg e : Expr} {env : Env} (h : notTup tg = true ∨ notTup e = true) : swappedStores [tg] e env = pure none := by
  rcases h with h | h
  · cases tg <;> first | rfl | (exact absurd h (by simp [notTup]))
  · cases tg <;> first | rfl | (cases e <;> first | rfl | (exact absurd h (by simp [notTup])))
theorem asg_one {tg : Expr} {env : Env} (h : notStar tg = true) : (assignEach [tg] env).map (·.2) = [assign tg env] := by rw [asg_cons h]; rfl
section
variable {X : Cx} {b : Bx} [KEq X b.z] {cf : CF} {fu : Nat} {e tg : Expr} {c : E} {t : Tg} {pos : Pos}
theorem ss_expr (he : PE X e (rE b (evE cf c))) (hn : notComp e = true) : PS X (.Expr e pos) (rS b (evS cf fu (.expr c))) :=
  (ps_expr he (swaps_no hn)).imp fun D σ H ⟨m, F, s, w, rel, p⟩ => by
    have p : PostS b m F H (bnd (evE cf c s) (fun _ => ret (.nx s)) w) D := by simpa only [evS] using p
    refine ⟨m, F, s, w, rel.wf, rel.sl, (p.bind rel.fm rel.wf).imp fun v H1 ⟨m1, F1, d, w1, f1, wf1, r1, p1⟩ => ?_⟩
    exact p1 m1 F1 H1 σ (Fk.refl _ _ _) (rel.step f1 wf1)
theorem set_pre {D : Ends} {σ : L2.St} {H : Hp} (h : rS b (evS cf fu (.set t c)) D σ H) : tAsg (rE b (evE cf c)) (rG b t) D σ H := by
  obtain ⟨m, F, s, w, rel, p⟩ := h
  have p : PostS b m F H (bnd (evE cf c s) (fun x => bnd (lift (bindT t x s)) fun s' => ret (.nx s')) w) D := by simpa only [evS] using p
  refine ⟨m, F, s, w, rel.wf, rel.sl, (p.bind rel.fm rel.wf).imp fun v H1 ⟨m1, F1, d, w1, f1, wf1, r1, p1⟩ => ?_⟩
  obtain ⟨s', e1, p2⟩ := p1.lift
  have rel1 := rel.step f1 wf1
  exact ⟨m1, F1, s, w1, d, s', wf1, rel1.sl, .inl r1, e1, fun σ' sr _ _ => p2 m1 F1 H1 σ' (Fk.refl _ _ _) ⟨wf1, sr, rel1.fm⟩⟩
theorem ss_set (he : PE X e (rE b (evE cf c))) (hg : PG X tg (rG b t)) (hs : swapsWithSole [tg] e pos.line X.env = pure false) (hw : swappedStores [tg] e X.env = pure none) (h1 : notStar tg = true) : PS X (.Assign [tg] e pos) (rS b (evS cf fu (.set t c))) :=
  (ps_asg he hg hs hw (asg_one h1)).imp fun D σ H h => set_pre h
/-- name = [..] on one line -/
theorem set_name {D : Ends} {σ : L2.St} {H : Hp} {i : Nat} (h : rS b (evS cf fu (.set (.name i) c)) D σ H) : rE b (evE cf c) σ H fun x H1 => gName i x σ H1 D.nx := by
  obtain ⟨m, F, s, w, rel, p⟩ := h
  have p : PostS b m F H (bnd (evE cf c s) (fun x => bnd (lift (bindT (.name i) x s)) fun s' => ret (.nx s')) w) D := by simpa only [evS] using p
  refine ⟨m, F, s, w, rel.wf, rel.sl, (p.bind rel.fm rel.wf).imp fun v H1 ⟨m1, F1, d, w1, f1, wf1, r1, p1⟩ => ?_⟩
  obtain ⟨s', e1, p2⟩ := p1.lift
  have rel1 := rel.step f1 wf1
  unfold bindT at e1
  split at e1
  · rename_i hi
    cases e1
    exact p2 m1 F1 H1 _ (Fk.refl _ _ _) ⟨wf1, rel1.sl.setI r1 hi, rel1.fm⟩
  · cases e1
theorem setM_pre {D : Ends} {σ : L2.St} {H : Hp} {i : Nat} (h : rS b (evS cf fu (.setM i c)) D σ H) : rF b (evE cf c) σ H fun x H1 => gName i x σ H1 D.nx := by
  obtain ⟨m, F, s, w, rel, p⟩ := h
  have p : PostS b m F H (bnd (evE cf c s) (fun x => bnd (lift (mutS x)) fun v => if i < s.length then ret (.nx (s.set i (some v))) else bad) w) D := by simpa only [evS] using p
  refine ⟨m, F, s, w, rel.wf, rel.sl, (p.bind rel.fm rel.wf).imp fun v H1 ⟨m1, F1, d, w1, f1, wf1, r1, p1⟩ => ?_⟩
  obtain ⟨sv, e1, p2⟩ := p1.lift
  have rel1 := rel.step f1 wf1
  obtain ⟨a, rfl, hn, nF, nM, hc⟩ := r1
  have ne : ∀ j, j ≠ i → isMut s j → σ[j]? ≠ some (some (.ref a)) := fun j _ hm hc => by
    obtain ⟨o, ho⟩ := rel.sl.there hm hc
    rw [hn] at ho; cases ho
  have h0 : b.H0 a = none := rel.fm.unlaid hn
  have ho : OwnR b.z m1 F1 H1 a sv := by
    rcases hc with ⟨vs, ds, rfl, h1, h2⟩ | ⟨ks, kvs, rfl, h1, h2⟩
    · cases e1
      exact ⟨vs, h1, h2⟩
    · cases e1
      exact ⟨ks, h1, h2⟩
  by_cases hi : i < s.length
  · rw [if_pos hi] at p2
    exact p2 m1 F1 H1 _ (Fk.refl _ _ _) ⟨wf1, rel1.sl.setM hi ho nF nM h0 ne, rel1.fm⟩
  · rw [if_neg hi] at p2
    exact p2.elim
theorem ss_setM {i : Nat} {x : Str} {py : Pos} (hN : X.N.Nodup) (hi : X.N[i]? = some x) (hx : Loc X.env.scope x) (hf : X.fn x = true ∨ X.env.scope.names.lookup x = some .local) (he : PE X e (rF b (evE cf c))) (hs : swapsWith e (some (.Name x py)) pos.line X.env = pure false) : PS X (.Assign [.Name x py] e pos) (rS b (evS cf fu (.setM i c))) :=
  (ps_set hN hi hx he hs hf).imp fun D σ H h => setM_pre h
theorem ss_ret (he : PE X e (rE b (evE cf c))) : PS X (.Return (some e) pos) (rS b (evS cf fu (.ret c))) :=
  (ps_ret he).imp fun D σ H ⟨m, F, s, w, rel, p⟩ => by
    have p : PostS b m F H (bnd (evE cf c s) (fun x => ret (.rt x)) w) D := by simpa only [evS] using p
    refine ⟨m, F, s, w, rel.wf, rel.sl, (p.bind rel.fm rel.wf).imp fun v H1 ⟨m1, F1, d, w1, f1, wf1, r1, p1⟩ => ?_⟩
    exact p1 m1 F1 H1 v wf1 (rel.fm.trans f1) r1
theorem ss_raise {k : Nat} {C : Addr} (hc : X.calm = true) (tk : Takes X (fun cls d _ H => b.E cls d H)) (he : PMk X e (fun _ H Q => Q (.ref C) none H)) (hC : b.cl k = .ref C) : PS X (.Raise (some e) none pos) (rS b (evS cf fu (.raise k))) :=
  (ps_raise hc tk he).imp fun D σ H ⟨m, F, s, w, rel, p⟩ => by
    have p : PostS b m F H (.exc k w) D := by simp only [evS] at p; exact p
    have := p m F H rel.wf rel.fm
    rw [hC] at this
    exact this
theorem ss_ife {a d : List Stmt} {tc : T} {ba bd : B} (ht : PT X e (rT b (evT cf tc))) (ha : PSs X a (rS b (evB cf fu ba))) (hd : PSs X d (rS b (evB cf fu bd))) : PS X (.If e a d pos) (rS b (evS cf fu (.ife tc ba bd))) :=
  (ps_if ht ha hd).imp fun D σ H ⟨m, F, s, w, rel, p⟩ => by
    have p : PostS b m F H (bnd (evT cf tc s) (fun k => if k then evB cf fu ba s else evB cf fu bd s) w) D := by simpa only [evS] using p
    refine ⟨m, F, s, w, rel.wf, rel.sl, (p.bind rel.fm rel.wf).imp fun k H1 ⟨m1, F1, k', w1, f1, wf1, r1, p1⟩ => ?_⟩
    cases (show k = k' from r1)
    cases k with
    | true => exact iteT ⟨m1, F1, s, w1, rel.step f1 wf1, p1⟩
    | false => exact iteF ⟨m1, F1, s, w1, rel.step f1 wf1, p1⟩

variable {x : Str} {i : Nat} {p1 apos cpos : Pos}
theorem few_one {env : Env} (hs : notStar e = true) : ((backTo cpos (starEach [e] env)).all (fun x => !x.1) && (backToKw cpos (keywordEach [] env)).all (fun x => x.1.isSome)
      && decide ([e].length + ([] : List Keyword).length + (if ([] : List Keyword).isEmpty then 0 else 1) < 30)) = true := by
  rw [star_cons hs]; rfl
theorem getL_some {s : Sl} {xs : List D} (h : getL s i = some xs) : s[i]? = some (some (.l xs)) := by
  unfold getL at h
  split at h
  · rename_i q
    cases h
    exact q
  · cases h
theorem getM_some {s : Sl} {xs : List (D × D)} (h : getM s i = some xs) : s[i]? = some (some (.m xs)) := by
  unfold getM at h
  split at h
  · rename_i q
    cases h
    exact q
  · cases h
theorem lstD_some {d : D} {xs : List D} (h : lstD d = some xs) : d = .list xs := by
  cases d with
  | list ys => cases h; rfl
  | _ => cases h
/-- the object of slot i is written -/
theorem RelS.write {m : Mu} {F : Fz} {s : Sl} {w : W} {σ : L2.St} {H : Hp} (rel : RelS b m F s w σ H) {a : Addr} {sv : SV} {o : HO} (hi : isMut s i) (ha : σ[i]? = some (some (.ref a))) (ho : OwnR b.z m F (upd H a o) a sv) :
    RelS b m F (s.set i (some sv)) w σ (upd H a o) ∧ Fk m F H m F (upd H a o) := by
  obtain ⟨nF, nM, h0⟩ := rel.sl.free i a hi ha
  exact ⟨⟨rel.wf.updA nF nM, rel.sl.write hi ha ho, rel.fm.updNew h0⟩, ⟨Kp.updA nF, fun _ h => h, fun _ _ h => h⟩⟩
theorem ss_app (hN : X.N[i]? = some x) (hv : Vis X.env.scope x) (hd : (x == ("__debug__" : Str)) = false) (hcd : (x == ("__classdict__" : Str)) = false) (he : PE X e (rE b (evE cf c))) (hs : notStar e = true) (hline : (apos.endLine == cpos.line) = true) :
    PS X (.Expr (.Call (.Attribute (.Name x p1) "append" apos) [e] [] cpos) pos) (rS b (evS cf fu (.app i c))) :=
  (ps_expr (pe_bm PySem.F.plainAttrs_list PySem.F.slot_list_append PySem.F.type_list_append mt_append (pe_var hN hv hd hcd) (pa_cons he pa_nil (star_cons hs)) rfl (few_one hs) hline (star_cons hs) rfl) rfl).imp fun D σ H ⟨m, F, s, w, rel, p⟩ => by
    have p : PostS b m F H (bnd (lift (getL s i)) (fun xs => bnd (evE cf c s) fun x => if xs.length < LIM then ret (.nx (s.set i (some (.l (xs ++ [x]))))) else bad) w) D := by simpa only [evS] using p
    obtain ⟨xs, ex, p⟩ := p.lift
    have ex := getL_some ex
    have hm : isMut s i := .inl ⟨xs, ex⟩
    obtain ⟨a, vs, e1, e2, r0⟩ := rel.sl.lst i xs ex
    refine ⟨.ref a, e1, .inl ⟨rfl, vs, .inl (.inl e2)⟩, m, F, s, w, rel.wf, rel.sl, (p.bind rel.fm rel.wf).imp fun v H1 ⟨m1, F1, d, w1, f1, wf1, r1, p1⟩ => ?_⟩
    have rel1 := rel.step f1 wf1
    by_cases hl : xs.length < LIM
    · rw [if_pos hl] at p1
      obtain ⟨a', vs', g1, g2, g3⟩ := rel1.sl.lst i xs ex
      rw [e1] at g1
      cases g1
      refine ⟨a, vs', v, rfl, rfl, g2, by rw [g3.length, ← lim_eq]; exact hl, ?_⟩
      obtain ⟨nF, _, _⟩ := rel1.sl.free i a hm e1
      have ho : OwnR b.z m1 F1 (upd H1 a (.lst (vs' ++ [v]))) a (.l (xs ++ [d])) := ⟨_, upd_same, (g3.append (.cons r1 .nil)).mono (Kp.updA nF) (fun _ h => h) (fun _ _ h => h)⟩
      obtain ⟨rel2, fk⟩ := rel1.write hm e1 ho
      exact p1 m1 F1 _ σ fk rel2
    · rw [if_neg hl] at p1
      exact p1.elim
theorem ss_ext (hN : X.N[i]? = some x) (hv : Vis X.env.scope x) (hd : (x == ("__debug__" : Str)) = false) (hcd : (x == ("__classdict__" : Str)) = false) (he : PE X e (rE b (evE cf c))) (hs : notStar e = true) (hline : (apos.endLine == cpos.line) = true) :
    PS X (.Expr (.Call (.Attribute (.Name x p1) "extend" apos) [e] [] cpos) pos) (rS b (evS cf fu (.ext i c))) :=
  (ps_expr (pe_bm PySem.F.plainAttrs_list PySem.F.slot_list_extend PySem.F.type_list_extend mt_extend (pe_var hN hv hd hcd) (pa_cons he pa_nil (star_cons hs)) rfl (few_one hs) hline (star_cons hs) rfl) rfl).imp fun D σ H ⟨m, F, s, w, rel, p⟩ => by
    have p : PostS b m F H (bnd (lift (getL s i)) (fun xs => bnd (evE cf c s) fun x => bnd (lift (lstD x)) fun ys => if xs.length + ys.length ≤ LIM then ret (.nx (s.set i (some (.l (xs ++ ys))))) else bad) w) D := by simpa only [evS] using p
    obtain ⟨xs, ex, p⟩ := p.lift
    have ex := getL_some ex
    have hm : isMut s i := .inl ⟨xs, ex⟩
    obtain ⟨a, vs, e1, e2, r0⟩ := rel.sl.lst i xs ex
    refine ⟨.ref a, e1, .inl ⟨rfl, vs, .inl (.inl e2)⟩, m, F, s, w, rel.wf, rel.sl, (p.bind rel.fm rel.wf).imp fun v H1 ⟨m1, F1, d, w1, f1, wf1, r1, p1⟩ => ?_⟩
    have rel1 := rel.step f1 wf1
    obtain ⟨ys, ey, p2⟩ := p1.lift
    have ey := lstD_some ey
    subst ey
    by_cases hl : xs.length + ys.length ≤ LIM
    · rw [if_pos hl] at p2
      obtain ⟨a', vs', g1, g2, g3⟩ := rel1.sl.lst i xs ex
      rw [e1] at g1
      cases g1
      obtain ⟨q, us, rfl, k1, k2⟩ := (RepR.list (.inl r1))
      refine ⟨a, q, vs', us, rfl, rfl, g2, k1, by rw [g3.length, k2.length, ← lim_eq]; exact hl, ?_⟩
      obtain ⟨nF, _, _⟩ := rel1.sl.free i a hm e1
      have ho : OwnR b.z m1 F1 (upd H1 a (.lst (vs' ++ us))) a (.l (xs ++ ys)) := ⟨_, upd_same, (g3.append k2).mono (Kp.updA nF) (fun _ h => h) (fun _ _ h => h)⟩
      obtain ⟨rel2, fk⟩ := rel1.write hm e1 ho
      exact p2 m1 F1 _ σ fk rel2
    · rw [if_neg hl] at p2
      exact p2.elim
/-- the store into a dict is done: what it asks of the model itself -/
def PutOk (X : Cx) (H : Hp) (a : Addr) (y v : V) (R : Hp → Prop) : Prop := ∀ (pins : List (Addr × Obj)) (s : Shared) (σ : L2.St) (u r : Value) (Q : Unit → Shared → Prop), Inv X pins σ H s → RelV y u → RelV v r → (∀ H' s', Inv X pins σ H' s' → R H' → Q () s') → wpAny (model X.prog X.w) X.A (setItem (.ref a) u r) Q X.xe s
def sPutX (X : Cx) (td ty tv : TE) : TS := fun D σ H => tv σ H fun v H1 => td σ H1 fun x H2 => ty σ H2 fun y H3 => ∃ a, x = .ref a ∧ PutOk X H3 a y v fun H4 => D.nx σ H4
theorem ps_putX {o k v : Expr} {td ty tv : TE} {pos' : Pos} (ho : PE X o td) (hi : PE X k ty) (hv : PE X v tv) (hs : swapsWith v (some (.Subscript o k pos')) pos.line X.env = pure false) : PS X (.Assign [.Subscript o k pos'] v pos) (sPutX X td ty tv) := by
  refine ⟨fun pins s σ H D I h => ?_⟩
  refine wpAny_Assign_Subscript (thn (hv.run pins s σ H _ I h) fun r s1 ⟨v, H1, I1, rv, q1⟩ => thn (ho.run pins s1 σ H1 _ I1 q1) fun u s2 ⟨x, H2, I2, rx, q2⟩ => thn (hi.run pins s2 σ H2 _ I2 q2) fun iv s3 ⟨y, H3, I3, ry, a, ex, g⟩ => ?_) hs
  subst ex
  obtain rfl : u = Value.ref a := rx
  exact g pins s3 σ iv r _ I3 ry rv fun H4 s4 I4 q => ⟨σ, H4, I4, q⟩
theorem ss_dput {k v : Expr} {ck cv : E} {pos' : Pos} (hu : X.A.units + 10 < cLine) (hw : b.z.wd = X.w) (hN : X.N[i]? = some x) (hv : Vis X.env.scope x) (hd : (x == ("__debug__" : Str)) = false) (hcd : (x == ("__classdict__" : Str)) = false) (hk : PE X k (rE b (evE cf ck))) (hvl : PE X v (rE b (evE cf cv))) (hn : notComp v = true) :
    PS X (.Assign [.Subscript (.Name x p1) k pos'] v pos) (rS b (evS cf fu (.dput i ck cv))) :=
  (ps_putX (pe_var hN hv hd hcd) hk hvl (swaps_no hn)).imp fun D σ H ⟨m, F, s, w, rel, p⟩ => by
    have p : PostS b m F H (bnd (evE cf cv s) (fun x => bnd (lift (getM s i)) fun kvs => bnd (evE cf ck s) fun y => if kyOk y kvs && decide (kvs.length < LIM) then ret (.nx (s.set i (some (.m (putD y x kvs))))) else bad) w) D := by simpa only [evS] using p
    refine ⟨m, F, s, w, rel.wf, rel.sl, (p.bind rel.fm rel.wf).imp fun vv H1 ⟨m1, F1, dv, w1, f1, wf1, r1, p1⟩ => ?_⟩
    have rel1 := rel.step f1 wf1
    obtain ⟨kvs, ex, p2⟩ := p1.lift
    have ex := getM_some ex
    have hm : isMut s i := .inr ⟨kvs, ex⟩
    obtain ⟨a, ks, e1, e2, r0⟩ := rel1.sl.dct i kvs ex
    refine ⟨.ref a, e1, m1, F1, s, w1, rel1.wf, rel1.sl, (p2.bind rel1.fm rel1.wf).imp fun yv H2 ⟨m2, F2, dk, w2, f2, wf2, r2, p3⟩ => ?_⟩
    have rel2 := rel1.step f2 wf2
    by_cases hc : (kyOk dk kvs && decide (kvs.length < LIM)) = true
    · rw [if_pos hc] at p3
      simp only [kyOk, Bool.and_eq_true, Bool.or_eq_true, decide_eq_true_eq] at hc
      obtain ⟨hc, h3⟩ := hc
      obtain ⟨a', o', g1, g2, g3⟩ := rel2.sl.dct i kvs ex
      rw [e1] at g1
      cases g1
      obtain ⟨nF, _, _⟩ := rel2.sl.free i a hm e1
      refine ⟨a, rfl, fun pins s0 σ0 u r Q I ry rv q => ?_⟩
      rcases hc with ⟨h1, h2⟩ | ⟨h1, h2⟩
      · obtain ⟨kk, rfl⟩ := keyOk_key h1
        have ek := RepR.key (.inl r2)
        subst ek
        obtain ⟨ks', eo, g4⟩ := g3.keyed h2
        subst eo
        refine d_setItem (by omega) I (DPut.k g2 (by rw [g4.length, ← lim_eq]; exact h3)) ry rv fun s4 I4 => q _ _ I4 ?_
        have ho : OwnR b.z m2 F2 (upd H2 a (.dK (putK ks' kk vv))) a (.m (putD (keyD kk) dv kvs)) := ⟨_, upd_same, .k ((g4.put kk (wf1.rep f2 r1)).mono (Kp.updA nF) (fun _ h => h) (fun _ _ h => h))⟩
        obtain ⟨rel3, fk⟩ := rel2.write hm e1 ho
        exact p3 m2 F2 _ σ fk rel3
      · refine n_put hu hw I ry rv g2 g3 nF r2 (wf1.rep f2 r1) h1 h2 (by rw [← lim_eq]; exact h3) fun o4 s4 I4 r4 => q _ _ I4 ?_
        obtain ⟨rel3, fk⟩ := rel2.write hm e1 (o := o4) (sv := .m (putD dk dv kvs)) ⟨o4, upd_same, r4⟩
        exact p3 m2 F2 _ σ fk rel3
    · rw [if_neg hc] at p3
      exact p3.elim
theorem sb_nil : PSs X [] (rS b (evB cf fu .nil)) := pss_nil.imp fun D σ H ⟨m, F, s, w, rel, p⟩ => by
  have p : PostS b m F H (.ok (.nx s) w) D := by simp only [evB] at p; exact p
  exact p m F H σ (Fk.refl _ _ _) rel
theorem sb_cons {st : Stmt} {sts : List Stmt} {a : S} {r : B} (h1 : PS X st (rS b (evS cf fu a))) (h2 : PSs X sts (rS b (evB cf fu r))) : PSs X (st :: sts) (rS b (evB cf fu (.cons a r))) :=
  (pss_cons h1 h2).imp fun D σ H ⟨m, F, s, w, rel, p⟩ => by
    refine ⟨m, F, s, w, rel, ?_⟩
    have p : PostS b m F H (bnd (evS cf fu a s) (fun o => match o with
      | .nx s' => evB cf fu r s'
      | .ct s' => ret (.ct s')
      | .rt v => ret (.rt v)) w) D := by simp only [evB] at p; exact p
    cases e1 : evS cf fu a s w with
    | ok o w1 =>
      rw [bnd_ok e1] at p
      cases o with
      | nx s' => exact fun m' F' H' σ' fk rel' => ⟨m', F', s', w1, rel', PostS.after p fk⟩
      | ct s' => exact p
      | rt v => exact p
    | exc k w1 =>
      rw [bnd_exc e1] at p
      exact p
    | bad =>
      rw [bnd_bad e1] at p
      exact p
theorem sb_frz {sts : List Stmt} {r : B} (h : PSs X sts (rS b (evB cf fu r))) : PSs X sts (rS b (evB cf fu (.frz i r))) := by
  refine ⟨fun pins s0 σ H D I ⟨m, F, s, w, rel, p⟩ => ?_⟩
  have p : PostS b m F H (bnd (lift (frzS s i)) (fun s' => evB cf fu r s') w) D := by simp only [evB] at p; exact p
  obtain ⟨s', e, p⟩ := p.lift
  unfold frzS at e
  split at e
  · rename_i xs q
    cases e
    have hm : isMut s i := .inl ⟨xs, q⟩
    obtain ⟨a, vs, e1, e2, r0⟩ := rel.sl.lst i xs q
    obtain ⟨nF, nM, h0⟩ := rel.sl.free i a hm e1
    have rr : Rep b.z m (frzA F a) H (.ref a) (.list xs) := .lst (.inr rfl) e2 (r0.mono (Kp.refl _ _) (fun _ h => .inl h) (fun _ _ h => h))
    exact h.run pins s0 σ H D I ⟨m, frzA F a, _, w, ⟨rel.wf.frz e2 nM, rel.sl.freeze hm e1 rr, rel.fm.frz0 h0⟩, p.after ⟨Kp.refl _ _, fun _ h => .inl h, fun _ _ h => h⟩⟩
  · rename_i xs q
    cases e
    have hm : isMut s i := .inr ⟨xs, q⟩
    obtain ⟨a, o, e1, e2, r0⟩ := rel.sl.dct i xs q
    obtain ⟨nF, nM, h0⟩ := rel.sl.free i a hm e1
    have mu : Mut (some o) := by cases r0 <;> exact True.intro
    obtain ⟨od, I1⟩ := I.lock e2 mu
    have wf1 : Wf b.z m F w (upd H a (.frz od o)) := rel.wf.updA nF nM
    have wf2 : Wf b.z m (frzA F a) w (upd H a (.frz od o)) := wf1.frz upd_same nM
    have fm2 : Fm b.m0 b.F0 b.H0 m (frzA F a) (upd H a (.frz od o)) := (rel.fm.updNew h0).frz0 h0
    exact h.run pins s0 σ _ D I1 ⟨m, frzA F a, _, w, ⟨wf2, rel.sl.lockD hm e1 r0, fm2⟩, p.after ⟨Kp.updA nF, fun _ h => .inl h, fun _ _ h => h⟩⟩
  · cases e
    exact h.run pins s0 σ H D I ⟨m, F, s, w, rel, p⟩

def notSet : Expr → Bool
  | .Set .. => false
  | _ => true
theorem folded_no {e : Expr} {env : Env} (h : notSet e = true) : ∀ x, foldedSetIterable e env x = pure x := by
  intro x
  cases e <;> first | rfl | (exact absurd h (by simp [notSet]))
theorem ss_for {iter : Expr} {body : List Stmt} {itc : I} {bc : B} (hp : PassesOwn (model X.prog X.w) X.A X.env X.xe) (hc : X.calm = true) (hi : PI X tg iter (rI b (g := isTT t) (evI cf itc))) (hg : PG X tg (rG b t)) (hb : PSs X body (rS b (evB cf fu bc))) (hns : notSet iter = true) : PS X (.For tg iter body [] pos) (rS b (evS cf fu (.for_ t itc bc))) :=
  (ps_for hp hc hi hg hb (folded_no hns)).imp fun D σ H ⟨m, F, s, w, rel, p⟩ => by
    have p : PostS b m F H (bnd (evI cf itc s) (fun ds => forL (fun d s => bnd (lift (bindT t d s)) fun s' => evB cf fu bc s') ds s) w) D := by simpa only [evS] using p
    refine ⟨m, F, s, w, rel.wf, rel.sl, (p.bind rel.fm rel.wf).imp fun J H1 ⟨m1, F1, ds, w1, f1, wf1, goes, p1⟩ => ?_⟩
    have rel1 := rel.step f1 wf1
    generalize hf : (fun d s => bnd (lift (bindT t d s)) fun s' => evB cf fu bc s' : PyData → Sl → M Fl) = f at p1
    obtain ⟨_, goes⟩ := goes
    refine ⟨fun i k σ Hc => k + i = ds.length ∧ ∃ m2 F2 s2 w2, Fk m1 F1 H1 m2 F2 Hc ∧ RelS b m2 F2 s2 w2 σ Hc ∧ PostS b m1 F1 H1 (forL f (ds.drop i) s2 w2) D,
      ⟨ds.length, rfl, m1, F1, s, w1, Fk.refl _ _ _, rel1, by rw [List.drop_zero]; exact p1⟩, ?_⟩
    rintro i k σ2 Hc ⟨hk, m2, F2, s2, w2, fk2, rel2, p2⟩
    obtain ⟨stop, go⟩ := goes m2 F2 Hc w2 fk2 rel2.wf
    by_cases hi : i < ds.length
    · refine .inr ?_
      have ed : ds[i]? = some ds[i] := List.getElem?_eq_getElem hi
      rw [List.drop_eq_getElem_cons hi] at p2
      generalize hd : ds[i] = d at ed p2
      obtain ⟨g1, g2⟩ := go i d ed
      refine ⟨g1, fun σ' H' => ds.length - (i + 1) + (i + 1) = ds.length ∧ ∃ m2 F2 s2 w2, Fk m1 F1 H1 m2 F2 H' ∧ RelS b m2 F2 s2 w2 σ' H' ∧ PostS b m1 F1 H1 (forL f (ds.drop (i + 1)) s2 w2) D, fun σ' H' h => ⟨ds.length - (i + 1), by omega, h⟩, fun x H3 hy => ?_⟩
      obtain ⟨F3, f3, wf3, r3⟩ := g2 x H3 hy
      have rel3 := rel2.step f3 wf3
      have fk3 := fk2.trans (rel2.wf.fk f3)
      have p2 : PostS b m1 F1 H1 (bnd (f d s2) (fun r => match r with
        | .nx s' => forL f (ds.drop (i + 1)) s'
        | .ct s' => forL f (ds.drop (i + 1)) s'
        | .rt v => ret (.rt v)) w2) D := p2
      have key : ∃ s3, bindT t d s2 = some s3 := by
        cases q : bindT t d s2 with
        | some s3 => exact ⟨s3, rfl⟩
        | none =>
          have : f d s2 w2 = .bad := by
            rw [← hf]
            show bnd (lift (bindT t d s2)) _ w2 = _
            rw [q]
            rfl
          rw [bnd_bad this] at p2
          exact p2.elim
      obtain ⟨s3, e3⟩ := key
      have ef : f d s2 = evB cf fu bc s3 := by
        rw [← hf]
        show bnd (lift (bindT t d s2)) _ = _
        rw [e3]
        rfl
      rw [ef] at p2
      refine ⟨m2, F3, s2, w2, d, s3, wf3, rel3.sl, r3, e3, fun σ3 sr3 _ _ => ?_⟩
      refine ⟨m2, F3, s3, w2, ⟨wf3, sr3, rel3.fm⟩, ?_⟩
      cases e4 : evB cf fu bc s3 w2 with
      | ok o w4 =>
        rw [bnd_ok e4] at p2
        cases o with
        | nx s4 => exact fun m' F' H' σ' fk rel' => ⟨by omega, m', F', s4, w4, fk3.trans fk, rel', p2⟩
        | ct s4 => exact fun m' F' H' σ' fk rel' => ⟨by omega, m', F', s4, w4, fk3.trans fk, rel', p2⟩
        | rt v => exact p2
      | exc q w4 =>
        rw [bnd_exc e4] at p2
        exact p2
      | bad =>
        rw [bnd_bad e4] at p2
        exact p2
    · refine .inl ?_
      have ei : i = ds.length := by omega
      subst ei
      refine ⟨stop, ?_⟩
      rw [List.drop_length] at p2
      have p2 : PostS b m1 F1 H1 (.ok (.nx s2) w2) D := p2
      exact p2 m2 F2 Hc σ2 fk2 rel2
end
end Ev

set_option Elab.async false
set_option linter.all false
set_option maxRecDepth 100000
set_option autoImplicit false
namespace Ev
open PySem PySem.Spec PyProof.Rows L2
/-- what is static about the defs: names and parameters; the built-ins that no def hides; the constants; the error classes; the calls by name -/
structure Tb where
  fn : List (Str × List Str)
  bl : List Str
  gi : List (Str × Int)
  ex : List Str
  kb : List (Nat × Nat)
  ng : Nat
  cn : Str
  fl : List Str
  hc : Bool
def Tb.nm (T : Tb) (j : Nat) : Str := (T.fn.getD j ("", [])).1
def Tb.ps (T : Tb) (j : Nat) : List Str := (T.fn.getD j ("", [])).2
def visB (sc : Scope) (x : Str) : Bool := match sc.names.lookup x with
  | some .local => true
  | some .cell => true
  | some .free => true
  | _ => false
def locB (sc : Scope) (x : Str) : Bool := match sc.names.lookup x with
  | some .local => true
  | some .cell => true
  | _ => false
def lclB (sc : Scope) (x : Str) : Bool := match sc.names.lookup x with
  | some .local => true
  | _ => false
def celB (sc : Scope) (x : Str) : Bool := match sc.names.lookup x with
  | some .cell => true
  | _ => false
def glB (sc : Scope) (x : Str) : Bool := match sc.names.lookup x with
  | some .globalImplicit => true
  | _ => false
def dbB (x : Str) : Bool := !(x == ("__debug__" : Str)) && !(x == ("__classdict__" : Str)) && !(x == ("__name__" : Str))
theorem vis_of {sc : Scope} {x : Str} (h : visB sc x = true) : Vis sc x := by
  unfold visB at h
  split at h
  · rename_i q; exact .inl q
  · rename_i q; exact .inr (.inl q)
  · rename_i q; exact .inr (.inr q)
  · cases h
theorem loc_of {sc : Scope} {x : Str} (h : locB sc x = true) : Loc sc x := by
  unfold locB at h
  split at h
  · rename_i q; exact .inl q
  · rename_i q; exact .inr q
  · cases h
theorem lcl_of {sc : Scope} {x : Str} (h : lclB sc x = true) : sc.names.lookup x = some .local := by
  unfold lclB at h
  split at h
  · rename_i q; exact q
  · cases h
theorem cel_of {sc : Scope} {x : Str} (h : celB sc x = true) : sc.names.lookup x = some .cell := by
  unfold celB at h
  split at h
  · rename_i q; exact q
  · cases h
theorem gl_of {sc : Scope} {x : Str} (h : glB sc x = true) : sc.names.lookup x = some .globalImplicit := by
  unfold glB at h
  split at h
  · rename_i q; exact q
  · cases h
theorem db_of {x : Str} (h : dbB x = true) : (x == ("__debug__" : Str)) = false ∧ (x == ("__classdict__" : Str)) = false ∧ x ≠ "__name__" := by
  unfold dbB at h
  simp only [Bool.and_eq_true, Bool.not_eq_true'] at h
  refine ⟨h.1.1, h.1.2, fun e => ?_⟩
  have := h.2
  rw [e] at this
  simp at this

abbrev exBm : List Value := [.type "ValueError", .type "Exception", .type "BaseException", .type "object"]
abbrev exNew : String := "ValueError.__new__"
/-- an error class of the program -/
structure ExF (K : PySem.W.Frag) (mg : Str → Option Value) (x : Str) (c : Addr) : Prop where
  exc : PySem.W.excIn K c exBm exNew = true
  mg : mg x = some (.ref c)
  kp : PySem.W.keepIn K (.ref c) = true
  sub : PySem.W.subIn K (.ref c) (.type "BaseException") = some true
  ty : PySem.W.typeIn K (.ref c) = some (.type "type")

/-- the class of the program, its fields and methods -/
structure CFx (T : Tb) (z : Zt) (K : PySem.W.Frag) (mg : Str → Option Value) : Prop where
  cl : Cls K z.ca
  na : ∀ f ∈ T.fl, NoAttr K z.ca f
  me : ∀ j, j < T.fn.length → T.ng ≤ j → Meth K z.ca (T.nm j) (z.fa j)
  mkr : ∀ j, j < T.fn.length → T.ng ≤ j → T.nm j = "__init__" → Mk K z.ca (z.fa j)
  mg : mg T.cn = some (.ref z.ca)
class Ok (T : outParam Tb) (fd : outParam (Nat → FuncData)) (ca : outParam (Nat → Addr)) (b : Bx) (cf : outParam CF) (k : outParam Nat) (X : Cx) (N : outParam (List Str)) (sc : outParam Scope) (fv : outParam (Str → Bool)) : Prop where
  eN : X.N = N
  nd : N.Nodup
  esc : X.env.scope = sc
  kd : sc.kind = .function
  efv : X.fn = fv
  calm : X.calm = true
  room : Room k X.A
  rm2 : Room (k + 2) X.A
  cs : T.hc = true → CFx T b.z X.K X.mg
  ew : b.z.wd = X.w
  eK : X.K = b.z.K
  tk : Takes X (fun cls d _ H => b.E cls d H)
  fns : ∀ j, j < T.fn.length → FnOk X.prog X.w X.K X.mg X.base (L2.CX X.prog X.w) k (b.z.fa j) (fd j) (T.ps j) (spF b.z b.cl (cf j) (T.ps j).length)
  mgf : ∀ j, j < T.fn.length → j < T.ng → X.mg (T.nm j) = some (.ref (b.z.fa j))
  kp : ∀ j, j < T.fn.length → PySem.W.keepIn X.K (.ref (b.z.fa j)) = true
  bd : ∀ j, j < T.fn.length → Binds X.K (fd j) (T.ps j) []
  kb : ∀ j n, (j, n) ∈ T.kb → KB X.K (fd j) (T.ps j) n
  bl : ∀ x ∈ T.bl, X.mg x = none
  gi : ∀ p ∈ T.gi, ∃ t, X.mg p.1 = some (.int p.2 t)
  ex : ∀ (j : Nat) (x : Str), T.ex[j]? = some x → ExF X.K X.mg x (ca j) ∧ b.cl j = .ref (ca j)

set_option synthInstance.checkSynthOrder false in
instance Ok.keq {T : Tb} {fd : Nat → FuncData} {ca : Nat → Addr} {b : Bx} {cf : CF} {k : Nat} {X : Cx} {N : List Str} {sc : Scope} {fv : Str → Bool} [O : Ok T fd ca b cf k X N sc fv] : KEq X b.z := ⟨O.eK⟩
/-- the static conditions -/
def vB (N : List Str) (sc : Scope) (i : Nat) (x : Str) : Bool := decide (N[i]? = some x) && visB sc x && dbB x
def bB (T : Tb) (sc : Scope) (x : Str) : Bool := glB sc x && decide (x ∈ T.bl) && dbB x
def fB (T : Tb) (sc : Scope) (j : Nat) (x : Str) : Bool := (decide (j < T.fn.length) && decide (j < T.ng)) && decide (T.nm j = x) && glB sc x && dbB x
def gB (T : Tb) (sc : Scope) (x : Str) (n : Int) : Bool := decide ((x, n) ∈ T.gi) && glB sc x && dbB x
def xB (T : Tb) (sc : Scope) (j : Nat) (x : Str) : Bool := decide (T.ex[j]? = some x) && glB sc x && dbB x
/-- a name that is bound -/
def tB (N : List Str) (sc : Scope) (fv : Str → Bool) (i : Nat) (x : Str) : Bool := decide (N[i]? = some x) && locB sc x && (fv x || lclB sc x)

section
variable {T : Tb} {fd : Nat → FuncData} {ca : Nat → Addr} {b : Bx} {cf : CF} {k fu : Nat} {X : Cx} {N : List Str} {sc : Scope} {fv : Str → Bool}
theorem Ok.blk (O : Ok T fd ca b cf k X N sc fv) (s : Shared) (H : Hp) (scope : Scope) (hk : scope.kind = .function) (C : Addr) (cl : List (Str × Addr)) (fp : List Addr) :
    Ok T fd ca b.no cf k (X.blk s H scope (compEnvC scope cl C X.env) fp) N (relS scope sc) (fun x => scope.names.lookup x == some .cell) where
  eN := O.eN
  nd := O.nd
  esc := by rw [← O.esc]; rfl
  kd := hk
  efv := rfl
  calm := O.calm
  room := O.room
  rm2 := O.rm2
  cs := O.cs
  ew := O.ew
  eK := O.eK
  tk := takes0
  fns := O.fns
  mgf := O.mgf
  kp := O.kp
  bd := O.bd
  kb := O.kb
  bl := O.bl
  gi := O.gi
  ex := O.ex
variable (O : Ok T fd ca b cf k X N sc fv)
include O
theorem Ok.gl {x : Str} (h : glB sc x = true) : Gl X x := by
  have := gl_of h
  rw [← O.esc] at this
  exact this
theorem Ok.un : X.A.units + 200 < cLine := by
  have := O.room.un
  omega
theorem Ok.v {i : Nat} {x : Str} (h : vB N sc i x = true) : X.N[i]? = some x ∧ Vis X.env.scope x ∧ (x == ("__debug__" : Str)) = false ∧ (x == ("__classdict__" : Str)) = false := by
  simp only [vB, Bool.and_eq_true, decide_eq_true_eq] at h
  exact ⟨by rw [O.eN]; exact h.1.1, by rw [O.esc]; exact vis_of h.1.2, (db_of h.2).1, (db_of h.2).2.1⟩
theorem Ok.blt {x : Str} (h : bB T sc x = true) : Gl X x ∧ X.mg x = none ∧ (x == ("__debug__" : Str)) = false ∧ x ≠ "__name__" := by
  simp only [bB, Bool.and_eq_true, decide_eq_true_eq] at h
  exact ⟨O.gl h.1.1, O.bl _ h.1.2, (db_of h.2).1, (db_of h.2).2.2⟩
theorem Ok.f {x : Str} {j : Nat} (h : fB T sc j x = true) : j < T.fn.length ∧ Gl X x ∧ X.mg x = some (.ref (b.z.fa j)) ∧ (x == ("__debug__" : Str)) = false := by
  simp only [fB, Bool.and_eq_true, decide_eq_true_eq] at h
  exact ⟨h.1.1.1.1, O.gl h.1.2, by rw [← h.1.1.2]; exact O.mgf j h.1.1.1.1 h.1.1.1.2, (db_of h.2).1⟩
theorem Ok.x {x : Str} {j : Nat} (h : xB T sc j x = true) : Gl X x ∧ ExF X.K X.mg x (ca j) ∧ b.cl j = .ref (ca j) ∧ (x == ("__debug__" : Str)) = false := by
  simp only [xB, Bool.and_eq_true, decide_eq_true_eq] at h
  exact ⟨O.gl h.1.2, (O.ex j x h.1.1).1, (O.ex j x h.1.1).2, (db_of h.2).1⟩
theorem Ok.t {x : Str} {i : Nat} (h : tB N sc fv i x = true) : X.N.Nodup ∧ X.N[i]? = some x ∧ Loc X.env.scope x ∧ (X.fn x = true ∨ X.env.scope.names.lookup x = some .local) := by
  simp only [tB, Bool.and_eq_true, decide_eq_true_eq, Bool.or_eq_true] at h
  refine ⟨by rw [O.eN]; exact O.nd, by rw [O.eN]; exact h.1.1, by rw [O.esc]; exact loc_of h.1.2, ?_⟩
  rcases h.2 with q | q
  · exact .inl (by rw [O.efv]; exact q)
  · exact .inr (by rw [O.esc]; exact lcl_of q)
variable {e a c : Expr} {ca' cb' cc' : E} {x : Str} {i : Nat} {pos p1 p2 : Pos}
theorem g_var (h : vB N sc i x = true := by decide +kernel) : PE X (.Name x pos) (rE b (evE cf (.var i))) := se_var (O.v h).1 (O.v h).2.1 (O.v h).2.2.1 (O.v h).2.2.2
theorem g_pk (h : vB N sc i x = true := by decide +kernel) : PE X (.Name x pos) (rR b (evE cf (.pk i))) := se_pk (O.v h).1 (O.v h).2.1 (O.v h).2.2.1 (O.v h).2.2.2
omit O in
theorem g_int [KEq X b.z] {n : Int} {j : Nat} : PE X (.Constant (.int n) j pos) (rE b (evE cf (.int n))) := se_c pe_int (fun s w => by simp only [evE]; rfl) fun _ _ _ => .int n
omit O in
theorem g_none [KEq X b.z] {j : Nat} : PE X (.Constant .none j pos) (rE b (evE cf .none)) := se_c pe_non (fun s w => by simp only [evE]; rfl) fun _ _ _ => .non
omit O in
theorem g_fa [KEq X b.z] {j : Nat} : PE X (.Constant (.bool false) j pos) (rE b (evE cf .fa)) := se_c pe_bl (fun s w => by simp only [evE]; rfl) fun _ _ _ => .bl false
omit O in
theorem g_str [KEq X b.z] {j : Nat} : PE X (.Constant (.str x) j pos) (rE b (evE cf (.str x))) := se_c pe_str (fun s w => by simp only [evE]; rfl) fun _ _ _ => .str x
theorem g_gint {n : Int} (h : gB T sc x n = true := by decide +kernel) : PE X (.Name x pos) (rE b (evE cf (.gint x n))) := by
  simp only [gB, Bool.and_eq_true, decide_eq_true_eq] at h
  obtain ⟨t, ht⟩ := O.gi _ h.1.1
  exact se_c (pe_glob (v := .int n) (O.gl h.1.2) ht ⟨t, rfl⟩ (db_of h.2).1) (fun s w => by simp only [evE]; rfl) fun _ _ _ => .int n
omit O in
theorem g_add [KEq X b.z] (ha : PE X a (rR b (evE cf ca'))) (hb : PE X c (rR b (evE cf cb'))) : PE X (.BinOp a .Add c pos) (rE b (evE cf (.op .add ca' cb'))) := se_op od_add ha hb
omit O in
theorem g_sub [KEq X b.z] (ha : PE X a (rR b (evE cf ca'))) (hb : PE X c (rR b (evE cf cb'))) : PE X (.BinOp a .Sub c pos) (rE b (evE cf (.op .sub ca' cb'))) := se_op od_sub ha hb
omit O in
theorem g_mul [KEq X b.z] (ha : PE X a (rR b (evE cf ca'))) (hb : PE X c (rR b (evE cf cb'))) : PE X (.BinOp a .Mult c pos) (rE b (evE cf (.op .mul ca' cb'))) := se_op od_mul ha hb
theorem Ok.lt : OpR X (compareOp .Lt) (rOp b (opD .lt)) := od_lt (by have := O.un; omega)
theorem Ok.le : OpR X (compareOp .LtE) (rOp b (opD .le)) := od_le
theorem Ok.gt : OpR X (compareOp .Gt) (rOp b (opD .gt)) := od_gt (by have := O.un; omega)
theorem Ok.ge : OpR X (compareOp .GtE) (rOp b (opD .ge)) := od_ge
theorem Ok.eq : OpR X (compareOp .Eq) (rOp b (opD .eq)) := od_eq (by have := O.un; omega)
theorem Ok.ne : OpR X (compareOp .NotEq) (rOp b (opD .ne)) := od_ne (by have := O.un; omega)
theorem Ok.isin : OpR X (compareOp .In) (rOp b (opD .isin)) := od_in (by have := O.un; omega) O.ew
theorem Ok.notin : OpR X (compareOp .NotIn) (rOp b (opD .notin)) := od_notIn (by have := O.un; omega) O.ew
theorem Ok.isN : OpR X (compareOp .Is) (rOp b (opD .isN)) := od_isN
theorem Ok.notN : OpR X (compareOp .IsNot) (rOp b (opD .notN)) := od_notN
omit O in
theorem g_cmp [KEq X b.z] {op : CmpOp} {o : Op2} (ho : OpR X (compareOp op) (rOp b (opD o))) (ha : PE X a (rR b (evE cf ca'))) (hb : PE X c (rR b (evE cf cb'))) (hm : behindInMarks op c = false := by decide +kernel) : PE X (.Compare a [op] [c] pos) (rE b (evE cf (.op o ca' cb'))) := se_cmp ho ha hb hm
omit O in
theorem q_cmp [KEq X b.z] {op : CmpOp} {o : Op2} (ho : OpR X (compareOp op) (rOp b (opD o))) (ha : PE X a (rR b (evE cf ca'))) (hb : PE X c (rR b (evE cf cb'))) (hm : behindInMarks op c = false := by decide +kernel) : PT X (.Compare a [op] [c] pos) (rT b (evT cf (.cmp o ca' cb'))) := st_cmp ho ha hb hm
omit O in
theorem g_chain [KEq X b.z] {op op' : CmpOp} {o o' : Op2} (ho : OpR X (compareOp op) (rOp b (opD o))) (ho' : OpR X (compareOp op') (rOp b (opD o'))) (ha : PE X a (rR b (evE cf ca'))) (hb : PE X c (rR b (evE cf cb'))) (hc : PE X e (rR b (evE cf cc'))) (hm : lastMarks [op, op'] [c, e] = false := by decide +kernel) :
    PE X (.Compare a [op, op'] [c, e] pos) (rE b (evE cf (.chain o o' ca' cb' cc'))) := se_chain ho ho' ha hb hc hm
omit O in
theorem q_chain [KEq X b.z] {op op' : CmpOp} {o o' : Op2} (ho : OpR X (compareOp op) (rOp b (opD o))) (ho' : OpR X (compareOp op') (rOp b (opD o'))) (ha : PE X a (rR b (evE cf ca'))) (hb : PE X c (rR b (evE cf cb'))) (hc : PE X e (rR b (evE cf cc'))) (hm : lastMarks [op, op'] [c, e] = false := by decide +kernel) :
    PT X (.Compare a [op, op'] [c, e] pos) (rT b (evT cf (.chain o o' ca' cb' cc'))) := st_chain ho ho' ha hb hc hm
theorem g_len (ha : PE X a (rR b (evE cf ca'))) (h : bB T sc "len" = true := by decide +kernel) (hs : notStar a = true := by rfl) : PE X (.Call (.Name "len" p1) [a] [] pos) (rE b (evE cf (.bi .len ca'))) := se_bi (cd_len O.ew) (O.blt h).1 (O.blt h).2.1 rfl ha hs (by decide) (by decide)
theorem g_all (ha : PE X a (rR b (evE cf ca'))) (h : bB T sc "all" = true := by decide +kernel) (hs : notStar a = true := by rfl) : PE X (.Call (.Name "all" p1) [a] [] pos) (rE b (evE cf (.bi .all ca'))) := se_bi (cd_all O.calm) (O.blt h).1 (O.blt h).2.1 rfl ha hs (by decide) (by decide)
theorem g_any (ha : PE X a (rR b (evE cf ca'))) (h : bB T sc "any" = true := by decide +kernel) (hs : notStar a = true := by rfl) : PE X (.Call (.Name "any" p1) [a] [] pos) (rE b (evE cf (.bi .any ca'))) := se_bi (cd_any O.calm) (O.blt h).1 (O.blt h).2.1 rfl ha hs (by decide) (by decide)
theorem g_sorted (ha : PE X a (rR b (evE cf ca'))) (h : bB T sc "sorted" = true := by decide +kernel) (hs : notStar a = true := by rfl) : PE X (.Call (.Name "sorted" p1) [a] [] pos) (rE b (evE cf (.bi .sorted ca'))) := se_bi (cd_sorted O.calm O.ew (by have := O.un; omega)) (O.blt h).1 (O.blt h).2.1 rfl ha hs (by decide) (by decide)
theorem g_tuple (ha : PE X a (rR b (evE cf ca'))) (h : bB T sc "tuple" = true := by decide +kernel) (hs : notStar a = true := by rfl) : PE X (.Call (.Name "tuple" p1) [a] [] pos) (rE b (evE cf (.bi .tuple ca'))) := se_bt cd_tuple (O.blt h).1 (O.blt h).2.1 rfl ha hs (by decide) (by decide)
theorem g_isi {t : Ty} {y : Str} (ha : PE X a (rR b (evE cf ca'))) (hy : bootBuiltins y = some (.type (tyN t))) (h : bB T sc "isinstance" = true := by decide +kernel) (h' : bB T sc y = true := by decide +kernel) (hs : notStar a = true := by rfl) :
    PE X (.Call (.Name "isinstance" p1) [a, .Name y p2] [] pos) (rE b (evE cf (.isi t ca'))) := se_isi (O.blt h).1 (O.blt h).2.1 ha hs (O.blt h').1 (O.blt h').2.1 hy (O.blt h').2.2.2 (O.blt h').2.2.1
theorem g_isint (ha : PE X a (rR b (evE cf ca'))) (h : bB T sc "isinstance" = true := by decide +kernel) (h' : bB T sc "int" = true := by decide +kernel) (hs : notStar a = true := by rfl) : PE X (.Call (.Name "isinstance" p1) [a, .Name "int" p2] [] pos) (rE b (evE cf (.isi .int ca'))) := g_isi O ha rfl h h' hs
theorem g_isbool (ha : PE X a (rR b (evE cf ca'))) (h : bB T sc "isinstance" = true := by decide +kernel) (h' : bB T sc "bool" = true := by decide +kernel) (hs : notStar a = true := by rfl) : PE X (.Call (.Name "isinstance" p1) [a, .Name "bool" p2] [] pos) (rE b (evE cf (.isi .bool ca'))) := g_isi O ha rfl h h' hs
theorem g_istuple (ha : PE X a (rR b (evE cf ca'))) (h : bB T sc "isinstance" = true := by decide +kernel) (h' : bB T sc "tuple" = true := by decide +kernel) (hs : notStar a = true := by rfl) : PE X (.Call (.Name "isinstance" p1) [a, .Name "tuple" p2] [] pos) (rE b (evE cf (.isi .tuple ca'))) := g_isi O ha rfl h h' hs
theorem g_isstr (ha : PE X a (rR b (evE cf ca'))) (h : bB T sc "isinstance" = true := by decide +kernel) (h' : bB T sc "str" = true := by decide +kernel) (hs : notStar a = true := by rfl) : PE X (.Call (.Name "isinstance" p1) [a, .Name "str" p2] [] pos) (rE b (evE cf (.isi .str ca'))) := g_isi O ha rfl h h' hs
theorem g_ix (ha : PE X a (rR b (evE cf ca'))) (hb : PE X c (rR b (evE cf cb'))) (hs : notSl c = true := by rfl) : PE X (.Subscript a c pos) (rE b (evE cf (.ix ca' cb'))) := se_ix (by have := O.un; omega) O.ew ha hb hs
omit O in
theorem g_nil [KEq X b.z] : PA X [] (rA b (evEs cf .nil)) := sa_nil
omit O in
theorem g_cons [KEq X b.z] {es : List Expr} {cs : Es} (he : PE X e (rE b (evE cf ca'))) (hes : PA X es (rA b (evEs cf cs))) (hs : notStar e = true := by rfl) : PA X (e :: es) (rA b (evEs cf (.cons ca' cs))) := sa_cons he hes hs
theorem g_call {j : Nat} {es : List Expr} {cs : Es} (ha : PA X (e :: es) (rA b (evEs cf cs))) (h : fB T sc j x = true := by decide +kernel) (hl : lenEs cs = (T.ps j).length := by decide +kernel) (hs : (e :: es).all notStar = true := by rfl) : PE X (.Call (.Name x p1) (e :: es) [] pos) (rE b (evE cf (.call j cs))) :=
  se_call (O.fns j (O.f h).1) O.room (O.f h).2.1 (O.f h).2.2.1 (O.kp j (O.f h).1) (O.bd j (O.f h).1) O.tk ha hl hs (O.f h).2.2.2
theorem g_call0 {j : Nat} (h : fB T sc j x = true := by decide +kernel) (hl : (T.ps j).length = 0 := by decide +kernel) : PE X (.Call (.Name x p1) [] [] pos) (rE b (evE cf (.call j .nil))) :=
  se_call0 (O.fns j (O.f h).1) O.room (O.f h).2.1 (O.f h).2.2.1 (O.kp j (O.f h).1) (O.bd j (O.f h).1) O.tk hl (O.f h).2.2.2
theorem g_callk {j : Nat} {es : List Expr} {cs ks : Es} {kws : List Keyword} (ha : PA X (e :: es) (rA b (evEs cf cs))) (hkw : PK X kws (rA b (evEs cf ks))) (h : fB T sc j x = true := by decide +kernel) (hk : (j, lenEs cs) ∈ T.kb := by decide +kernel) (hl : lenEs cs + lenEs ks = (T.ps j).length := by decide +kernel) (hs : (e :: es).all notStar = true := by rfl)
    (ho : kwOk ((T.ps j).drop (lenEs cs)) kws = true := by decide +kernel) : PE X (.Call (.Name x p1) (e :: es) kws pos) (rE b (evE cf (.call j (appEs cs ks)))) :=
  se_callk (O.fns j (O.f h).1) O.room (O.f h).2.1 (O.f h).2.2.1 (O.kp j (O.f h).1) (O.kb j _ hk) O.tk ha hkw hl hs ho (O.f h).2.2.2
theorem g_callk0 {j : Nat} {ks : Es} {kws : List Keyword} (hkw : PK X kws (rA b (evEs cf ks))) (h : fB T sc j x = true := by decide +kernel) (hk : (j, 0) ∈ T.kb := by decide +kernel) (hl : lenEs ks = (T.ps j).length := by decide +kernel)
    (ho : kwOk (T.ps j) kws = true := by decide +kernel) : PE X (.Call (.Name x p1) [] kws pos) (rE b (evE cf (.call j ks))) :=
  se_callk0 (O.fns j (O.f h).1) O.room (O.f h).2.1 (O.f h).2.2.1 (O.kp j (O.f h).1) (O.kb j _ hk) O.tk hkw hl ho (O.f h).2.2.2
theorem q_val (ha : PE X a (rR b (evE cf ca'))) (he : ∀ whole, isTrue a X.env whole = (do let v ← whole; standAt a.pos; holding [v] (truthy v)) := by intro _; rfl) : PT X a (rT b (evT cf (.val ca'))) := st_val O.ew ha he
omit O in
theorem g_and1 [KEq X b.z] (ha : PE X a (rE b (evE cf ca'))) : PE X (.BoolOp .And [a] pos) (rE b (evE cf ca')) := ⟨fun pins s σ H Q I h => by
  have := ha.run pins s σ H Q I h
  exact this⟩
theorem g_name (h : tB N sc fv i x = true := by decide +kernel) : PG X (.Name x pos) (rG b (.name i)) := sg_name (O.t h).1 (O.t h).2.1 (O.t h).2.2.1 (O.t h).2.2.2
theorem g_ttup {es : List Expr} {kk : Nat} {ts : Tgs} (hg : PGs X es (rGs b ts)) (hs : es.all notStar = true := by rfl) (hl : lenTs ts = es.length := by rfl) : PG X (.Tuple es kk pos) (rG b (.tup ts)) := sg_tup O.calm hg hs fun ds s s' h => (bindTs_len ts ds s s' h).trans hl
omit O in
theorem g_tcons [KEq X b.z] {es : List Expr} {t : Tg} {ts : Tgs} (h1 : PG X e (rG b t)) (h2 : PGs X es (rGs b ts)) (hs : notStar e = true := by rfl) : PGs X (e :: es) (rGs b (.cons t ts)) := sgs_cons h1 h2 hs
variable {tg : Expr} {elts : List Expr} {kk : Nat} {tpos : Pos}
omit O in
theorem i_seq [KEq X b.z] {g : Bool} (ha : PE X a (rE b (evE cf ca'))) : PI X tg a (rI b (g := g) (evI cf (.seq ca'))) := si_seq ha
theorem i_range1 {g : Bool} (ha : PE X a (rR b (evE cf ca'))) (h : bB T sc "range" = true := by decide +kernel) (hs : notStar a = true := by rfl) : PI X tg (.Call (.Name "range" p1) [a] [] pos) (rI b (g := g) (evI cf (.range1 ca'))) := si_range1 (O.blt h).1 (O.blt h).2.1 ha hs
theorem i_zip (ha : PE X a (rE b (evE cf ca'))) (hb : PE X c (rE b (evE cf cb'))) (h : bB T sc "zip" = true := by decide +kernel) (hs : notStar a = true := by rfl) (hs2 : notStar c = true := by rfl) : PI X (.Tuple elts kk tpos) (.Call (.Name "zip" p1) [a, c] [] pos) (rI b (g := true) (evI cf (.zip ca' cb'))) := si_zip (O.blt h).1 (O.blt h).2.1 ha hb hs hs2
end
end Ev

set_option Elab.async false
set_option linter.all false
set_option maxRecDepth 100000
set_option autoImplicit false
namespace Ev
open PySem PySem.Spec PyProof.Rows L2
section
variable {X : Cx} {b : Bx} [KEq X b.z] {cf : CF} {e : Expr} {t : Ev.T}
theorem g_yes : PTs X [] (rT b (evTs cf .yes)) := ⟨fun pins s σ H Q I ⟨m, F, sl, w, wf, sr, p⟩ => pts_nil.run pins s σ H Q I (by
  have p : Post b m F H (R.ok true w) EqL Q := by simp only [evTs] at p; exact p
  exact p m F H true (Fm.refl _ _ _) wf rfl)⟩
theorem g_one (h : PT X e (rT b (evT cf t))) : PTs X [e] (rT b (evTs cf (.one t))) := ⟨fun pins s σ H Q I h' => (pts_one h).run pins s σ H Q I (by
  have e : evTs cf (.one t) = evT cf t := by funext s; simp only [evTs]
  rw [e] at h'
  exact h')⟩
end
def slB (tg : Tg) (own : List (Str × Nat)) : Bool := (slotsT tg).all fun j => (own.map (·.2)).contains j
theorem sl_of {tg : Tg} {own : List (Str × Nat)} (h : slB tg own = true) : ∀ j ∈ slotsT tg, j ∈ own.map (·.2) := fun j hj => by
  have := List.all_eq_true.mp h j hj
  simpa using this
/-- the statement's line and the name's kind: the list is stored as it is made -/
def swB (sc scope : Scope) (y : Str) (py pos : Pos) : Bool := lclB sc y && (py.line == pos.line) && !(scope.names.any fun (n, k) => n == y && (k == .local || k == .cell))
theorem sw_no {elt : Expr} {gs : List Comprehension} {scope : Scope} {pos py : Pos} {y : Str} {l : Nat} {env : Env} (hy : env.scope.names.lookup y = some .cell) : swapsWith (.ListComp elt gs scope pos) (some (.Name y py)) l env = pure false := by
  have ky : env.kindOf y = some .cell := hy
  unfold swapsWith
  simp only [ky, Expr.pos]
  cases (env.blockKind == ScopeKind.function) <;> rfl
section
variable {T : Tb} {fd : Nat → FuncData} {ca : Nat → Addr} {b : Bx} {cf : CF} {k fu : Nat} {X : Cx} {N : List Str} {sc : Scope} {fv : Str → Bool} (O : Ok T fd ca b cf k X N sc fv)
include O
variable {elt tg iter : Expr} {ifs : List Expr} {scope : Scope} {own : List (Str × Nat)} {pos : Pos} {tgc : Tg} {itc : I} {ifc : Ts} {ec : E}
theorem g_comp (hi : PI X tg iter (rI b (g := isTT tgc) (evI cf itc)))
    (hg : ∀ X', Ok T fd ca b.no cf k X' N (relS scope sc) (fun x => scope.names.lookup x == some .cell) → PG X' tg (rG b.no tgc))
    (ht : ∀ X', Ok T fd ca b.no cf k X' N (relS scope sc) (fun x => scope.names.lookup x == some .cell) → PTs X' ifs (rT b.no (evTs cf ifc)))
    (he : ∀ X', Ok T fd ca b.no cf k X' N (relS scope sc) (fun x => scope.names.lookup x == some .cell) → PE X' elt (rE b.no (evE cf ec)))
    (hb : blkC N sc scope own = true := by decide +kernel) (hs : slB tgc own = true := by decide +kernel) (hn : notSet iter = true := by rfl) :
    PE X (.ListComp elt [⟨tg, iter, ifs, 0⟩] scope pos) (rE b (evE cf (.comp ec tgc itc ifc (own.map (·.2))))) := by
  have bo := blkOk_by hb
  have N' : BlkOk X.N X.env.scope scope own := by rw [O.eN, O.esc]; exact bo
  exact (pe_lc O.calm (by rw [O.eN]; exact O.nd) hi N' (fun s H C cl fp => hg _ (O.blk s H scope bo.kind C cl fp)) (fun s H C cl fp => ht _ (O.blk s H scope bo.kind C cl fp)) (fun s H C cl fp => he _ (O.blk s H scope bo.kind C cl fp)) (folded_no hn)).imp fun σ H Q h => comp_strict (sl_of hs) h
variable {i : Nat} {y : Str} {py spos : Pos}
theorem swap_true (h : swB sc scope y py pos = true) (hl : (py.line == pos.line) = true) {gs : List Comprehension} {l : Nat} : swapsWith (.ListComp elt gs scope pos) (some (.Name y py)) l X.env = pure true ∧ X.env.scope.names.lookup y = some .local := by
  simp only [swB, Bool.and_eq_true, Bool.not_eq_true'] at h
  have h1 := lcl_of h.1.1
  rw [← O.esc] at h1
  exact ⟨sw_true (by rw [O.esc]; exact O.kd) h1 h.1.2 h.2, h1⟩
theorem g_setL (hi : PI X tg iter (rI b (g := isTT tgc) (evI cf itc)))
    (hg : ∀ X', Ok T fd ca b.no cf k X' N (relS scope sc) (fun x => scope.names.lookup x == some .cell) → PG X' tg (rG b.no tgc))
    (ht : ∀ X', Ok T fd ca b.no cf k X' N (relS scope sc) (fun x => scope.names.lookup x == some .cell) → PTs X' ifs (rT b.no (evTs cf ifc)))
    (he : ∀ X', Ok T fd ca b.no cf k X' N (relS scope sc) (fun x => scope.names.lookup x == some .cell) → PE X' elt (rE b.no (evE cf ec)))
    (hb : blkC N sc scope own = true := by decide +kernel) (hs : slB tgc own = true := by decide +kernel) (hn : notSet iter = true := by rfl) (hy : decide (N[i]? = some y) = true := by decide +kernel) (hw : swB sc scope y py pos = true := by decide +kernel) :
    PS X (.Assign [.Name y py] (.ListComp elt [⟨tg, iter, ifs, 0⟩] scope pos) spos) (rS b (evS cf fu (.set (.name i) (.comp ec tgc itc ifc (own.map (·.2)))))) := by
  have bo := blkOk_by hb
  have N' : BlkOk X.N X.env.scope scope own := by rw [O.eN, O.esc]; exact bo
  have hl : (py.line == pos.line) = true := by simp only [swB, Bool.and_eq_true] at hw; exact hw.1.2
  obtain ⟨w1, w2⟩ := swap_true O hw hl (elt := elt) (gs := [⟨tg, iter, ifs, 0⟩]) (l := spos.line)
  exact (ps_setLc O.calm (by rw [O.eN]; exact O.nd) (by rw [O.eN]; exact of_decide_eq_true hy) w2 w1 hi N' (fun s H C cl fp => hg _ (O.blk s H scope bo.kind C cl fp)) (fun s H C cl fp => ht _ (O.blk s H scope bo.kind C cl fp)) (fun s H C cl fp => he _ (O.blk s H scope bo.kind C cl fp)) (folded_no hn)).imp fun D σ H h => comp_strict (sl_of hs) (set_name h)
variable {e : Expr} {c : E} {t : Tg}
/-- name = [..] where the name is a cell -/
theorem g_setC {gs : List Comprehension} (he : PE X (.ListComp elt gs scope pos) (rE b (evE cf c))) (ht : tB N sc fv i y = true := by decide +kernel) (hc : celB sc y = true := by decide +kernel) : PS X (.Assign [.Name y py] (.ListComp elt gs scope pos) spos) (rS b (evS cf fu (.set (.name i) c))) :=
  ss_set he (g_name O ht) (show swapsWith _ (some (.Name y py)) spos.line X.env = pure false from sw_no (by rw [O.esc]; exact cel_of hc)) (stores_no (.inl rfl)) rfl
omit O in
theorem g_expr [KEq X b.z] (he : PE X e (rE b (evE cf c))) (hn : notComp e = true := by rfl) : PS X (.Expr e pos) (rS b (evS cf fu (.expr c))) := ss_expr he hn
theorem g_set (he : PE X e (rE b (evE cf c))) (ht : tB N sc fv i y = true := by decide +kernel) (hn : notComp e = true := by rfl) : PS X (.Assign [.Name y py] e pos) (rS b (evS cf fu (.set (.name i) c))) :=
  ss_set he (g_name O ht) (show swapsWith _ (some (.Name y py)) pos.line X.env = pure false from swaps_no hn) (stores_no (.inl rfl)) rfl
omit O in
theorem g_unpack [KEq X b.z] (he : PE X e (rE b (evE cf c))) (hg : PG X tg (rG b t)) (hn : notComp e = true := by rfl) (h2 : notTup e = true := by rfl) (h1 : notStar tg = true := by rfl) : PS X (.Assign [tg] e pos) (rS b (evS cf fu (.set t c))) :=
  ss_set he hg (show swapsWith _ (some tg) pos.line X.env = pure false from swaps_no hn) (stores_no (.inr h2)) h1
theorem g_setM (he : PE X e (rF b (evE cf c))) (ht : tB N sc fv i y = true := by decide +kernel) (hn : notComp e = true := by rfl) : PS X (.Assign [.Name y py] e pos) (rS b (evS cf fu (.setM i c))) :=
  ss_setM (O.t ht).1 (O.t ht).2.1 (O.t ht).2.2.1 (O.t ht).2.2.2 he (swaps_no hn)
theorem g_app {apos cpos p1 : Pos} (he : PE X e (rE b (evE cf c))) (h : vB N sc i y = true := by decide +kernel) (hs : notStar e = true := by rfl) (hl : (apos.endLine == cpos.line) = true := by rfl) : PS X (.Expr (.Call (.Attribute (.Name y p1) "append" apos) [e] [] cpos) pos) (rS b (evS cf fu (.app i c))) :=
  ss_app (O.v h).1 (O.v h).2.1 (O.v h).2.2.1 (O.v h).2.2.2 he hs hl
theorem g_ext {apos cpos p1 : Pos} (he : PE X e (rE b (evE cf c))) (h : vB N sc i y = true := by decide +kernel) (hs : notStar e = true := by rfl) (hl : (apos.endLine == cpos.line) = true := by rfl) : PS X (.Expr (.Call (.Attribute (.Name y p1) "extend" apos) [e] [] cpos) pos) (rS b (evS cf fu (.ext i c))) :=
  ss_ext (O.v h).1 (O.v h).2.1 (O.v h).2.2.1 (O.v h).2.2.2 he hs hl
theorem g_dput {kx vx : Expr} {ck cv : E} {p1 pos' : Pos} (hk : PE X kx (rE b (evE cf ck))) (hv : PE X vx (rE b (evE cf cv))) (h : vB N sc i y = true := by decide +kernel) (hn : notComp vx = true := by rfl) : PS X (.Assign [.Subscript (.Name y p1) kx pos'] vx pos) (rS b (evS cf fu (.dput i ck cv))) :=
  ss_dput (by have := O.un; omega) O.ew (O.v h).1 (O.v h).2.1 (O.v h).2.2.1 (O.v h).2.2.2 hk hv hn
theorem g_raise {j jj : Nat} {m : Str} {p p2 p3 : Pos} (h : xB T sc j y = true := by decide +kernel) : PS X (.Raise (some (.Call (.Name y p) [.Constant (.str m) jj p2] [] p3)) none pos) (rS b (evS cf fu (.raise j))) :=
  ss_raise O.calm O.tk (pmk_own PySem.F.excBase_ValueError (O.x h).2.1.exc (O.x h).2.1.mg (O.x h).2.1.kp (raises_own (O.x h).2.1.sub (O.x h).2.1.ty) (O.x h).1 (O.x h).2.2.2) (O.x h).2.2.1
theorem g_for {body : List Stmt} {bc : B} (hp : PassesOwn (model X.prog X.w) X.A X.env X.xe) (hi : PI X tg iter (rI b (g := isTT t) (evI cf itc))) (hg : PG X tg (rG b t)) (hb : PSs X body (rS b (evB cf fu bc))) (hns : notSet iter = true := by rfl) : PS X (.For tg iter body [] pos) (rS b (evS cf fu (.for_ t itc bc))) :=
  ss_for hp O.calm hi hg hb hns
end

theorem startA_eq {fn : Fn} {ds : List D} (h : ds.length ≤ fn.ns) : (startA fn ds).length = fn.ns := by
  unfold startA
  rw [List.length_append, List.length_map, List.length_replicate]
  omega
theorem start_sl {z : Zt} {m : Mu} {F : Fz} {H : Hp} {vs : List V} {ds : List D} {N : List Str} {fn : Fn} (hn : N.length = fn.ns) (r : RepAll z m F H vs ds) (hl : ds.length ≤ fn.ns) : SlR z m F H (startA fn ds) (L2.start N vs) H := by
  have key : ∀ (i : Nat) (sv : SV), (startA fn ds)[i]? = some (some sv) → ∃ d, sv = .i d ∧ ds[i]? = some d := fun i sv e => by
    unfold startA at e
    by_cases hi : i < ds.length
    · rw [List.getElem?_append_left (by rw [List.length_map]; exact hi), List.getElem?_map, List.getElem?_eq_getElem hi] at e
      cases e
      exact ⟨_, rfl, List.getElem?_eq_getElem hi⟩
    · rw [List.getElem?_append_right (by rw [List.length_map]; omega), List.getElem?_replicate] at e
      split at e <;> cases e
  have nm : ∀ i, ¬ isMut (startA fn ds) i := fun i h => by
    rcases h with ⟨xs, e⟩ | ⟨xs, e⟩
    · obtain ⟨d, q, _⟩ := key i _ e
      cases q
    · obtain ⟨d, q, _⟩ := key i _ e
      cases q
  refine ⟨?_, fun i d e => ?_, fun i xs e => (nm i (.inl ⟨xs, e⟩)).elim, fun i xs e => (nm i (.inr ⟨xs, e⟩)).elim, fun i a h => (nm i h).elim, fun i j a h => (nm i h).elim⟩
  · rw [startA_eq hl]
    unfold L2.start
    rw [List.length_append, List.length_map, List.length_replicate, r.length, ← hn]
    omega
  · obtain ⟨d', q, e'⟩ := key i _ e
    cases q
    obtain ⟨v, ev, rv⟩ := r.get e'
    refine ⟨v, ?_, rv⟩
    have hi : i < vs.length := (List.getElem?_eq_some_iff.mp ev).1
    unfold L2.start
    rw [List.getElem?_append_left (by rw [List.length_map]; exact hi), List.getElem?_map, ev]
    rfl
section
variable {P : Program} {w : World} {K : PySem.W.Frag} {mg : Str → Option Value} {base : Heap}
/-- the def's own frame stands on top -/
structure StF (X : Cx) : Prop where
  st : X.stack = X.env :: X.outer
  fr : X.env.frame = some X.env.locals
/-- what all bodies share -/
structure Fx (T : Tb) (fd : Nat → FuncData) (ca : Nat → Addr) (z : Zt) (cl : Nat → Value) (K : PySem.W.Frag) (mg : Str → Option Value) : Prop where
  mgf : ∀ j, j < T.fn.length → j < T.ng → mg (T.nm j) = some (.ref (z.fa j))
  kp : ∀ j, j < T.fn.length → PySem.W.keepIn K (.ref (z.fa j)) = true
  bd : ∀ j, j < T.fn.length → Binds K (fd j) (T.ps j) []
  kb : ∀ j n, (j, n) ∈ T.kb → KB K (fd j) (T.ps j) n
  bl : ∀ x ∈ T.bl, mg x = none
  gi : ∀ p ∈ T.gi, ∃ t, mg p.1 = some (.int p.2 t)
  ex : ∀ (j : Nat) (x : Str), T.ex[j]? = some x → ExF K mg x (ca j) ∧ cl j = .ref (ca j)
  cs : T.hc = true → CFx T z K mg
  eK : K = z.K
def scB (N ps : List Str) (sc : Scope) (fn : Fn) : Bool := decide (N.Nodup) && decide (N.take ps.length = ps) && (ps.all fun x => locB sc x) && (sc.names.all fun y => match y.2 with | .free => false | _ => true) && decide (N.length = fn.ns) && decide (ps.length = fn.np) && decide (fn.np ≤ fn.ns) && (match sc.kind with | .function => true | _ => false) && !sc.isCoroutine && !sc.isGenerator
theorem def_ok {T : Tb} {fd : Nat → FuncData} {ca : Nat → Addr} {z : Zt} {cl : Nat → Value} {cf : CF} {k fu : Nat} (hw : z.wd = w) (A0 : Fx T fd ca z cl K mg) (IH : ∀ j, j < T.fn.length → FnOk P w K mg base (L2.CX P w) k (z.fa j) (fd j) (T.ps j) (spF z cl (cf j) (T.ps j).length))
    {x qx : Str} {st : Stmt} {f : Addr} {fdat : FuncData} {N ps : List Str} {fn : Fn} (F : FunD K x qx (defArgs st) (defBody st) (defScope st) [] [] f fdat) (hs : scB N ps (defScope st) fn = true)
    (hb : ∀ (X : Cx) (b : Bx), b.z = z → b.cl = cl → Ok T fd ca b cf k X N (defScope st) (fun _ => true) → PassesOwn (model X.prog X.w) X.A X.env X.xe → StF X → PSs X (defBody st) (rS b (evB cf fu fn.body))) :
    FnOk P w K mg base (L2.CX P w) (k + 5) f fdat ps (spF z cl (runF cf fu fn) ps.length) := by
  simp only [scB, Bool.and_eq_true, decide_eq_true_eq, Bool.not_eq_true'] at hs
  obtain ⟨⟨⟨⟨⟨⟨⟨⟨⟨h1, h2⟩, h3⟩, h4⟩, h5⟩, h6⟩, h7⟩, h8⟩, h9⟩, h10⟩ := hs
  have hkd : (defScope st).kind = .function := by
    split at h8
    · assumption
    · cases h8
  have S : FnScope N ps (defScope st) := ⟨hkd, h9, h10, h1, h2, fun y hy => loc_of (List.all_eq_true.mp h3 y hy), fun y hy e => by
    have := List.all_eq_true.mp h4 y hy
    rw [e] at this
    cases this⟩
  refine F.ok S (fun vs H Q E h => h.1) fun cdv A outer s H vs Q E hr h => ?_
  obtain ⟨hl, m, Fz, w', ds, wf, r, p⟩ := h
  have O : Ok T fd ca (⟨z, cl, E, H, m, Fz⟩ : Bx) cf k (cxOf (L2.CX P w) P w K mg base N qx (defScope st) f cdv A outer s H E) N (defScope st) (fun _ => true) :=
    { eN := rfl, nd := h1, esc := rfl, kd := hkd, efv := rfl, calm := rfl, room := hr.mono (by omega), rm2 := hr.mono (by omega), cs := A0.cs, ew := hw, eK := A0.eK, tk := takes_of rfl rfl rfl rfl, fns := IH, mgf := A0.mgf, kp := A0.kp, bd := A0.bd, kb := A0.kb, bl := A0.bl, gi := A0.gi, ex := A0.ex }
  refine ⟨_, hb _ _ rfl rfl O (passes_of rfl) ⟨rfl, rfl⟩, ?_⟩
  have hd : ds.length = fn.np := by rw [← r.length, hl, h6]
  refine ⟨m, Fz, startA fn ds, w', ⟨wf, start_sl h5 r (by omega), Fm.refl _ _ _⟩, ?_⟩
  have p : Post ⟨z, cl, E, H, m, Fz⟩ m Fz H (runF cf fu fn ds w') (Rep z) Q := p
  unfold runF at p
  rw [if_pos hd] at p
  cases e : evB cf fu fn.body (startA fn ds) w' with
  | ok o w1 =>
    cases o with
    | nx s1 =>
      rw [bnd_ok e] at p
      exact fun m' F' H' σ' fk rel' => (show Post _ m Fz H (.ok .none w1) (Rep z) Q from p) m' F' H' .non rel'.fm rel'.wf .non
    | ct s1 =>
      rw [bnd_ok e] at p
      exact p.elim
    | rt d =>
      rw [bnd_ok e] at p
      exact fun m' F' H' v wf' fm' r' => (show Post _ m Fz H (.ok d w1) (Rep z) Q from p) m' F' H' v fm' wf' r'
  | exc c w1 =>
    rw [bnd_exc e] at p
    exact fun m' F' H' wf' fm' => p m' F' H' fm' wf'
  | bad =>
    rw [bnd_bad e] at p
    exact p.elim
end
end Ev

set_option Elab.async false
set_option linter.all false
set_option maxRecDepth 100000
set_option autoImplicit false
namespace Ev
open PySem PySem.Spec PyProof.Rows L2
section
variable {P : Program} {w : World} {K : PySem.W.Frag} {mg : Str → Option Value} {base : Heap}
theorem fn_bad {z : Zt} {cl : Nat → Value} {k : Nat} {f : Addr} {fdat : FuncData} {ps : List Str} {g : List D → M D} (hg : ∀ ds w, g ds w = .bad) : FnOk P w K mg base (L2.CX P w) k f fdat ps (spF z cl g ps.length) := by
  have no : ∀ vs H Q E, ¬ spF z cl g ps.length vs H Q E := fun vs H Q E h => by
    obtain ⟨_, m, F, w', ds, _, _, p⟩ := h
    rw [hg] at p
    exact p
  exact ⟨fun vs H Q E h => absurd h (no vs H Q E), fun A outer s H args us vs Q E _ _ _ _ h => absurd h (no vs H Q E)⟩
/-- all defs at once, by the depth of the calls -/
theorem levels {T : Tb} {fd : Nat → FuncData} {z : Zt} {cl : Nat → Value} {fs : List Def} {fu : Nat} (hl : fs.length = T.fn.length)
    (step : ∀ (n j : Nat), j < T.fn.length → (∀ i, i < T.fn.length → FnOk P w K mg base (L2.CX P w) (5 * n) (z.fa i) (fd i) (T.ps i) (spF z cl (callN fs fu n i) (T.ps i).length)) →
      ∀ d, fs[j]? = some d → FnOk P w K mg base (L2.CX P w) (5 * n + 5) (z.fa j) (fd j) (T.ps j) (spF z cl (callD (callN fs fu n) fu d) (T.ps j).length)) :
    ∀ (n j : Nat), j < T.fn.length → FnOk P w K mg base (L2.CX P w) (5 * n) (z.fa j) (fd j) (T.ps j) (spF z cl (callN fs fu n j) (T.ps j).length)
  | 0, j, _ => fn_bad fun _ _ => rfl
  | n + 1, j, hj => by
    have IH := levels hl step n
    have e : fs[j]? = some fs[j] := List.getElem?_eq_getElem (by omega)
    have h := step n j hj IH _ e
    have q : callN fs fu (n + 1) j = callD (callN fs fu n) fu fs[j] := by
      funext ds
      show (match fs[j]? with
        | some d => callD (callN fs fu n) fu d ds
        | none => bad) = _
      rw [e]
    rw [q]
    exact h
end
/-- where a def stands: among the globals, in the class -/
def Tb.dat (T : Tb) (j : Nat) : Str × Option Str := if j < T.ng then (T.nm j, none) else (T.cn, some (T.nm j))
def Tb.ql (T : Tb) (j : Nat) : Str := if j < T.ng then T.nm j else T.cn ++ "." ++ T.nm j
def fnL (top : Nat → Stmt) (T : Tb) (pl : List Nat) : List He.DefD := (List.range T.fn.length).map fun j => ⟨T.dat j, T.nm j, T.ql j, defArgs (top (pl.getD j 0)), defBody (top (pl.getD j 0)), defScope (top (pl.getD j 0)), [], []⟩
def clL (T : Tb) : List He.Fa := if T.hc then .glo T.cn :: .cls T.cn :: .mkr T.cn :: (T.fl.map (.noat T.cn) ++ (T.fn.drop T.ng).map fun p => .meth T.cn p.1) else []
def faL (T : Tb) : List He.Fa := (T.fn.take T.ng).map (fun p => .glo p.1) ++ (T.bl.map .free ++ (T.gi.map (fun p => .int p.1 p.2) ++ (T.ex.map .glo ++ (T.ex.map .exc ++ clL T))))
section
variable {K : PySem.W.Frag} {h : Heap} {mg : Str → Option Value} {T : Tb} {top : Nat → Stmt} {pl : List Nat}
theorem says_mem {fa : List He.Fa} {fn : List He.DefD} (c : He.SaysD fa fn K) {f : He.Fa} (hf : f ∈ fa) : f.ok K = true := by
  obtain ⟨i, hi⟩ := List.mem_iff_getElem?.mp hf
  exact c.fact i hi
theorem says_fn (c : He.SaysD (faL T) (fnL top T pl) K) (j : Nat) (hj : j < T.fn.length) : ∃ fd, FunD K (T.nm j) (T.ql j) (defArgs (top (pl.getD j 0))) (defBody (top (pl.getD j 0))) (defScope (top (pl.getD j 0))) [] [] (He.fAd K (T.dat j)) fd := by
  have e : (fnL top T pl)[j]? = some ⟨T.dat j, T.nm j, T.ql j, defArgs (top (pl.getD j 0)), defBody (top (pl.getD j 0)), defScope (top (pl.getD j 0)), [], []⟩ := by
    unfold fnL
    rw [List.getElem?_map, List.getElem?_range hj]
    rfl
  exact c.def_ j e
theorem nm_mem {j : Nat} (hj : j < T.fn.length) : (T.fn[j]).1 = T.nm j := by
  unfold Tb.nm
  rw [List.getD_eq_getElem?_getD, List.getElem?_eq_getElem hj]
  rfl
theorem cfx_of (X : K.In h) (G : h.Ns mainGlobals mg) (c : He.SaysD (faL T) (fnL top T pl) K) {z : Zt} (hz : ∀ j, j < T.fn.length → z.fa j = He.fAd K (T.dat j)) (hca : z.ca = He.ga K T.cn) (hh : T.hc = true) : CFx T z K mg := by
  have hm : ∀ f, f ∈ clL T → f.ok K = true := fun f hf => says_mem c (List.mem_append_right _ (List.mem_append_right _ (List.mem_append_right _ (List.mem_append_right _ (List.mem_append_right _ hf)))))
  unfold clL at hm
  rw [if_pos hh] at hm
  have hd : ∀ j, j < T.fn.length → T.ng ≤ j → z.fa j = He.ma K (He.ga K T.cn) (T.nm j) := fun j hj hg => by
    rw [hz j hj]
    unfold Tb.dat
    rw [if_neg (by omega)]
    rfl
  refine ⟨?_, fun f hf => ?_, fun j hj hg => ?_, fun j hj hg hn => ?_, ?_⟩
  · rw [hca]
    exact He.cls_ok (hm _ (by simp))
  · rw [hca]
    exact He.noat_ok (hm (.noat T.cn f) (by simp [hf]))
  · rw [hca, hd j hj hg]
    refine He.meth_ok (hm _ ?_)
    refine List.mem_cons_of_mem _ (List.mem_cons_of_mem _ (List.mem_cons_of_mem _ (List.mem_append_right _ (List.mem_map.mpr ⟨T.fn[j], ?_, by rw [nm_mem hj]⟩))))
    rw [List.mem_iff_getElem?]
    exact ⟨j - T.ng, by rw [List.getElem?_drop, Nat.add_sub_cancel' hg, List.getElem?_eq_getElem hj]⟩
  · rw [hca, hd j hj hg, hn]
    exact He.mkr_ok (hm _ (by simp))
  · rw [hca]
    exact He.glo_ok X G (hm _ (by simp))
/-- the bundle, from what the head says -/
theorem fx_of (X : K.In h) (G : h.Ns mainGlobals mg) (c : He.SaysD (faL T) (fnL top T pl) K) {z : Zt} (hz : ∀ j, j < T.fn.length → z.fa j = He.fAd K (T.dat j)) (hca : z.ca = He.ga K T.cn) {fd : Nat → FuncData}
    (hF : ∀ j, j < T.fn.length → PySem.W.keepIn K (.ref (z.fa j)) = true) (hb : ∀ j, j < T.fn.length → Binds K (fd j) (T.ps j) []) (hk : ∀ j n, (j, n) ∈ T.kb → KB K (fd j) (T.ps j) n) (hzK : K = z.K := by rfl) :
    Fx T fd (fun j => He.ga K (T.ex.getD j "")) z (fun j => .ref (He.ga K (T.ex.getD j ""))) K mg where
  mgf := fun j hj hg => by
    rw [hz j hj]
    unfold Tb.dat
    rw [if_pos hg]
    refine He.glo_ok X G (says_mem c ?_)
    refine List.mem_append_left _ (List.mem_map.mpr ⟨T.fn[j], ?_, by rw [nm_mem hj]⟩)
    rw [List.mem_iff_getElem?]
    exact ⟨j, by rw [List.getElem?_take_of_lt hg, List.getElem?_eq_getElem hj]⟩
  cs := fun hh => cfx_of X G c hz hca hh
  eK := hzK
  kp := hF
  bd := hb
  kb := hk
  bl := fun x hx => He.free_ok X G (says_mem c (List.mem_append_right _ (List.mem_append_left _ (List.mem_map.mpr ⟨x, hx, rfl⟩))))
  gi := fun p hp => He.int_ok X G (says_mem c (List.mem_append_right _ (List.mem_append_right _ (List.mem_append_left _ (List.mem_map.mpr ⟨p, hp, rfl⟩)))))
  ex := fun j x hx => by
    have hm := List.mem_of_getElem? hx
    have e : T.ex.getD j "" = x := by
      rw [List.getD_eq_getElem?_getD, hx]
      rfl
    have h1 := He.glo_ok X G (says_mem (f := .glo x) c (List.mem_append_right _ (List.mem_append_right _ (List.mem_append_right _ (List.mem_append_left _ (List.mem_map.mpr ⟨x, hm, rfl⟩))))))
    have h2 := says_mem (f := .exc x) c (List.mem_append_right _ (List.mem_append_right _ (List.mem_append_right _ (List.mem_append_right _ (List.mem_append_left _ (List.mem_map.mpr ⟨x, hm, rfl⟩))))))
    obtain ⟨k1, k2⟩ := He.ba (show (PySem.W.excIn K (He.ga K x) He.veBase "ValueError.__new__" && (PySem.W.keepIn K (.ref (He.ga K x)) && (decide (PySem.W.subIn K (.ref (He.ga K x)) (.type "BaseException") = some true) && decide (PySem.W.typeIn K (.ref (He.ga K x)) = some (.type "type"))))) = true from h2)
    obtain ⟨k3, k4⟩ := He.ba k2
    obtain ⟨k5, k6⟩ := He.ba k4
    rw [e]
    exact ⟨⟨k1, h1, k3, of_decide_eq_true k5, of_decide_eq_true k6⟩, rfl⟩
end
theorem cx_no {P : Program} {w : World} {H : Hp} {s : Shared} {e : Value} {s' : Shared} (h : L2.CX P w [] H s (fun _ _ _ => False) e s') : False := by
  obtain ⟨_, _, _, _, _, _, _, _, _, _, _, _, z⟩ := h
  exact z
/-- the start: nothing but the script and the tables -/
def tabW (tb : List (Addr × Str)) : W := .non :: tb.map fun p => .tab p.2
def tabM (tb : List (Addr × Str)) : Mu := [] :: tb.map fun p => [p.1]
theorem tabM_flat (tb : List (Addr × Str)) : (tabM tb).flatten = tb.map (·.1) := by
  unfold tabM
  rw [List.flatten_cons, List.nil_append]
  induction tb with
  | nil => rfl
  | cons p r ih => rw [List.map_cons, List.flatten_cons, ih]; rfl
theorem start_wf {K : PySem.W.Frag} {H : Hp} {a : Addr} {ns : List Int} {fa : Nat → Addr} {tb : List (Addr × Str)} {wd : World} {ca : Addr} (hS : SqL K H a (ns.map V.int)) (hT : ∀ p ∈ tb, H p.1 = some (.tbl #[])) (nd : (tb.map (·.1)).Nodup) :
    Wf ⟨fa, K, a, ns, tb, wd, ca⟩ (tabM tb) (fun b => b = a ∧ (∃ xs, Rd H b (.lst xs)) ∧ ∃ o, H b = some o) (tabW tb) H where
  len := by unfold tabM tabW; rw [List.length_cons, List.length_cons, List.length_map, List.length_map]
  obj := fun n as mo h1 h2 => by
    unfold tabM at h1
    unfold tabW at h2
    cases n with
    | zero =>
      cases h1
      cases h2
      rfl
    | succ n =>
      rw [List.getElem?_cons_succ, List.getElem?_map] at h1 h2
      cases e : tb[n]? with
      | none => rw [e] at h1; cases h1
      | some p =>
        rw [e] at h1 h2
        cases h1
        cases h2
        exact ⟨p.1, rfl, #[], hT p (List.mem_of_getElem? e), True.intro, fun pos cv hc => by
          have z : codeAmong pos [] = some cv := hc
          simp [codeAmong] at z⟩
  nd := by rw [tabM_flat]; exact nd
  nF := fun b hm hF => by
    rw [tabM_flat] at hm
    obtain ⟨p, hp, e⟩ := List.mem_map.mp hm
    obtain ⟨_, ⟨xs, h⟩, _⟩ := hF
    have q := hT p hp
    rw [e] at q
    rcases h with h | ⟨o, h⟩
    · rw [h] at q; cases q
    · rw [h] at q; cases q
  dom := fun b h => h.2.2
  mdom := fun b hm => by
    rw [tabM_flat] at hm
    obtain ⟨p, hp, e⟩ := List.mem_map.mp hm
    exact ⟨_, e ▸ hT p hp⟩
  scr := by
    rcases hS with h | h
    · refine .inl ⟨⟨rfl, ⟨_, h⟩, ?_⟩, h⟩
      rcases h with h | ⟨o, h⟩
      · exact ⟨_, h⟩
      · exact ⟨_, h⟩
    · exact .inr h
  tab := fun i p e => by
    unfold tabM tabW
    have e : tb[i]? = some p := e
    rw [List.getElem?_cons_succ, List.getElem?_cons_succ, List.getElem?_map, List.getElem?_map, e]
    exact ⟨rfl, rfl⟩

theorem kb_of {K : PySem.W.Frag} {x qual : Str} {params : Arguments} {body : List Stmt} {scope : Scope} {f : Addr} {fd : FuncData} {ps : List Str} {n : Nat} (F : FunD K x qual params body scope [] [] f fd)
    (h : ∀ (kV doc pm : Value) (an : Option Addr) (cdv ct : Value) (us ws : List Value), us.length = n → ws.length = (ps.drop n).length → bindArgs (PySem.W.fnOf x qual params body scope .none kV doc pm an cdv ct) ⟨us, (ps.drop n).zip ws⟩ = pure (ps.zip (us ++ ws))) : KB K fd ps n := by
  intro s us ws _ h1 h2
  obtain ⟨oc, od, dV, kV, doc, pm, an, cdv, ct, osl, rfl, lk, hcd, hD, hK⟩ := F.ex
  rcases hD with ⟨_, rfl⟩ | ⟨e, _⟩
  · exact .of_eq (h kV doc pm an cdv ct us ws h1 (by rw [List.length_drop]; omega))
  · exact absurd rfl e
end Ev

set_option Elab.async false
set_option linter.all false
set_option maxRecDepth 100000
set_option autoImplicit false
namespace Ev
open PySem PySem.Spec PyProof.Rows L2
def isScr : D → Bool
  | .dict [(.bool false, .none)] => true
  | _ => false
def lookI : List (Int × Int) → Int → Option Int
  | [], _ => none
  | (k, v) :: r, x => if k = x then some v else lookI r x
def putI (rs : List (Int × Int)) (x v : Int) : List (Int × Int) :=
  if rs.any (fun p => decide (p.1 = x)) then rs.map (fun p => if p.1 = x then (p.1, v) else p) else rs ++ [(x, v)]
def atS (ns : List Int) (c : Int) : Int := if ns = [] then 0 else c % ns.length
def restI (ns : List Int) (rs : List (Int × Int)) (a : Int) : Int := (lookI rs a).getD (if ns = [] then 0 else ns.getD a.toNat 0)
def drawR (c rest many : Int) : Int := if 10 ^ 18 ≤ rest then rest % many else
  ((((rest + 104729 * c) % 4294967291) ^ 5 % 4294967279) / 64 * 69621 + (((rest + 104729 * c) % 4294967291) ^ 5 % 4294967279)) % 4294967231 / 8 % many
def drawT (ns : List Int) (c : Int) (rs : List (Int × Int)) (many : Int) (n : Nat) : M D := fun w =>
  .ok (.int (drawR (c + 1) (restI ns rs (atS ns (c + 1))) many)) (w.set n (.town (c + 1) (if 10 ^ 18 ≤ restI ns rs (atS ns (c + 1)) then putI rs (atS ns (c + 1)) (restI ns rs (atS ns (c + 1)) / many) else rs)))
def townW (w : W) (n : Nat) : Option (Int × List (Int × Int)) := match w[n]? with
  | some (.town c rs) => some (c, rs)
  | _ => none
def drawP (ns : List Int) : List D → M D
  | [s, t, m] => fun w => if isScr s then (bnd (lift (obN t)) fun n => bnd (lift (intD m)) fun many => bnd (lift (townW w n)) fun p => if 0 < many ∧ many < 1073741824 ∧ p.2.length < 1000 then drawT ns p.1 p.2 many n else bad) w else .bad
  | _ => bad
/-- the town is the store's first object -/
def begunW : W → R D
  | .non :: r => .ok (obD 0) (.town 0 [] :: r)
  | _ => .bad
def begunP : List D → M D
  | [] => begunW
  | _ => bad
theorem townW_some {w : W} {n : Nat} {p : Int × List (Int × Int)} (h : townW w n = some p) : w[n]? = some (.town p.1 p.2) := by
  unfold townW at h
  split at h
  · rename_i q
    cases h
    exact q
  · cases h
theorem RepKV.keyed {z : Zt} {m : Mu} {F : Fz} {H : Hp} : ∀ {kvs : List (Key × V)} {ds : List (D × D)}, RepKV z m F H kvs ds → ∀ p ∈ ds, keyOk p.1 = true
  | _, _, .nil, p, hp => nomatch hp
  | _, _, .cons (k := k) h t, p, hp => by
    rcases List.mem_cons.mp hp with e | hp
    · subst e
      cases k <;> rfl
    · exact RepKV.keyed t p hp
theorem rep_dict {z : Zt} {m : Mu} {F : Fz} {H : Hp} {v : V} {k x : D} (hk : keyOk k = false) (ht : tkOk k = false) (r : Rep z m F H v (.dict [(k, x)])) : (∃ n, .dict [(k, x)] = fnD n ∧ v = .ref (z.fa n)) ∨ (.dict [(k, x)] = scrD ∧ v = .ref z.sa) ∨ ∃ n a, .dict [(k, x)] = obD n ∧ v = .ref a ∧ mainA m n = some a := by
  generalize hd : PyData.dict [(k, x)] = d at r
  cases r with
  | dK h1 h2 h3 =>
    exfalso
    cases hd
    cases h3 with
    | k h3 =>
      have := RepKV.keyed h3 (k, x) List.mem_cons_self
      rw [hk] at this
      cases this
    | n h3 _ =>
      cases h3 with
      | cons h0 _ _ _ =>
        rw [ht] at h0
        cases h0
  | fn n => exact .inl ⟨n, rfl, rfl⟩
  | scr => exact .inr (.inl ⟨rfl, rfl⟩)
  | ob h => exact .inr (.inr ⟨_, _, rfl, rfl, h⟩)
  | _ => cases hd
theorem rep_scr {z : Zt} {m : Mu} {F : Fz} {H : Hp} {v : V} {d : D} (h : isScr d = true) (r : Rep z m F H v d) : v = .ref z.sa := by
  have e : d = scrD := by
    unfold isScr at h
    split at h
    · rfl
    · cases h
  subst e
  rcases rep_dict (k := .bool false) (x := .none) rfl rfl r with ⟨n, q, _⟩ | ⟨_, e⟩ | ⟨n, a, q, _⟩
  · unfold fnD at q; cases q
  · exact e
  · unfold obD at q; cases q
theorem rep_ob {z : Zt} {m : Mu} {F : Fz} {H : Hp} {v : V} {d : D} {n : Nat} (h : obN d = some n) (r : Rep z m F H v d) : ∃ a, v = .ref a ∧ mainA m n = some a := by
  unfold obN at h
  split at h
  · rename_i k
    rcases rep_dict (k := .bool true) (x := .int k) rfl rfl r with ⟨n, q, _⟩ | ⟨q, _⟩ | ⟨n', a, q, e1, e2⟩
    · unfold fnD at q; cases q
    · unfold scrD at q; cases q
    · unfold obD at q
      cases q
      split at h
      · cases h
        exact ⟨a, e1, e2⟩
      · cases h
  · cases h

abbrev rPl : R2 := rI0 fun i j => .int (i + j)
abbrev rMl : R2 := L2.rI CMul fun i j => .int (i * j)
abbrev rDv : R2 := L2.rI CDiv fun i j => .int (i / j)
abbrev rMd : R2 := L2.rI (fun _ j => 0 < j) fun i j => .int (i % j)
abbrev rPw : R2 := L2.rI CPow fun i j => .int (i ^ j.toNat)
abbrev rGe : R2 := rI0 fun i j => .bl (decide (j ≤ i))
abbrev tTr (K : PySem.W.Frag) (ta : TE) : TT := fun σ H Q => ta σ H fun x H' => ∃ k, TruV K x H' k ∧ Q k H'
abbrev tLn (K : PySem.W.Frag) (ta : TE) : TE := tCB (fun xs H Q => ∃ x n, xs = [x] ∧ LenV K x H n ∧ Q (.int n) H) (tCons ta tNil)
abbrev tI (i : Int) : TE := tC (.int i)
abbrev tS (x : Str) : TE := tC (.str x)
def t_draw (K : PySem.W.Frag) : TS :=
  tSeq (sDPut (tVar 1) (tS "count") (tOp rPl (tDGet (tVar 1) (tS "count")) (tI 1)))
  (tSeq (tAsg (tIf (tTr K (tVar 0)) (tOp rMd (tDGet (tVar 1) (tS "count")) (tLn K (tVar 0))) (tI 0)) (gName 3))
  (tSeq (tAsg (tDGet2 (tDGet (tVar 1) (tS "rests")) (tVar 3) (tIf (tTr K (tVar 0)) (tOp (rIxL K) (tVar 0) (tVar 3)) (tI 0))) (gName 4))
  (tSeq (tIfS (tTest (tOp rGe (tVar 4) (tOp rPw (tI 10) (tI 18)))) (tSeq (sDPut (tDGet (tVar 1) (tS "rests")) (tVar 3) (tOp rDv (tVar 4) (tVar 2))) (tRet (tOp rMd (tVar 4) (tVar 2)))) tNext)
  (tSeq (tAsg (tOp rMd (tOp rPl (tVar 4) (tOp rMl (tI 104729) (tDGet (tVar 1) (tS "count")))) (tI 4294967291)) (gName 5))
  (tSeq (tAsg (tOp rMd (tOp rPw (tVar 5) (tI 5)) (tI 4294967279)) (gName 5))
  (tRet (tOp rMd (tOp rDv (tOp rMd (tOp rPl (tOp rMl (tOp rDv (tVar 5) (tI 64)) (tI 69621)) (tVar 5)) (tI 4294967231)) (tI 8)) (tVar 2))))))))

def tK (c : Int) (r : Addr) : List (Key × V) := [(.inr "count", .int c), (.inr "rests", .ref r)]
def rK (rs : List (Int × Int)) : List (Key × V) := rs.map fun p => (.inl p.1, .int p.2)
theorem tK_count (c : Int) (r : Addr) : valV (tK c r) (.inr "count") = some (.int c) := rfl
theorem tK_rests (c : Int) (r : Addr) : valV (tK c r) (.inr "rests") = some (.ref r) := by
  have ne : (Sum.inr ("count" : Str) : Key) ≠ Sum.inr ("rests" : Str) := by decide
  unfold valV tK
  rw [List.find?_cons_of_neg (by simpa using ne), List.find?_cons_of_pos (by simp)]
  rfl
theorem tK_put (c c' : Int) (r : Addr) : putK (tK c r) (.inr "count") (.int c') = tK c' r := by
  have ne : (Sum.inr ("rests" : Str) : Key) ≠ Sum.inr ("count" : Str) := by decide
  unfold putK tK
  rw [if_pos (by simp), List.map_cons, List.map_cons, if_pos rfl, if_neg ne]
  rfl
theorem rK_val (rs : List (Int × Int)) (x : Int) : valV (rK rs) (.inl x) = (lookI rs x).map V.int := by
  induction rs with
  | nil => rfl
  | cons p r ih =>
    obtain ⟨k, v⟩ := p
    unfold valV at ih ⊢
    show (List.find? _ ((Sum.inl k, V.int v) :: rK r)).map _ = _
    unfold lookI
    by_cases hk : k = x
    · subst hk
      rw [List.find?_cons_of_pos (by simp), if_pos rfl]
      rfl
    · rw [List.find?_cons_of_neg (by simp [hk]), if_neg hk]
      exact ih
theorem rK_put (rs : List (Int × Int)) (x v : Int) : putK (rK rs) (.inl x) (.int v) = rK (putI rs x v) := by
  have ea : ((rK rs).any fun kv => decide (kv.1 = (Sum.inl x : Key))) = rs.any (fun p => decide (p.1 = x)) := by
    unfold rK
    rw [List.any_map]
    congr 1
    funext p
    simp
  unfold putK putI
  rw [ea]
  split
  · unfold rK
    rw [List.map_map, List.map_map]
    congr 1
    funext p
    show (if (Sum.inl p.1 : Key) = Sum.inl x then _ else _) = _
    by_cases h : p.1 = x
    · rw [if_pos (by rw [h])]
      simp [h]
    · rw [if_neg (by simp [h])]
      simp [h]
  · unfold rK
    rw [List.map_append]
    rfl
/-- a town is written -/
theorem Wf.town {z : Zt} {m : Mu} {F : Fz} {w : W} {H H' : Hp} {n : Nat} {t r : Addr} {c c' : Int} {rs rs' : List (Int × Int)} (wf : Wf z m F w H) (hm : m[n]? = some [t, r]) (hw : w[n]? = some (.town c rs)) (ht : H' t = some (.dK (tK c' r))) (hr : H' r = some (.dK (rK rs'))) (ho : ∀ b, b ≠ t → b ≠ r → H' b = H b) :
    Wf z m F (w.set n (.town c' rs')) H' ∧ Fm m F H m F H' := by
  have mt : t ∈ m.flatten := List.mem_flatten.mpr ⟨_, List.mem_of_getElem? hm, by simp⟩
  have mr : r ∈ m.flatten := List.mem_flatten.mpr ⟨_, List.mem_of_getElem? hm, by simp⟩
  have hn : n < w.length := (List.getElem?_eq_some_iff.mp hw).1
  have keep : ∀ a o, H a = some o → a ∉ m.flatten → H' a = some o := fun a o h hn => by
    rw [ho a (fun e => hn (e ▸ mt)) (fun e => hn (e ▸ mr))]
    exact h
  have dom : ∀ a o, H a = some o → ∃ o', H' a = some o' := fun a o h => by
    by_cases e1 : a = t
    · exact ⟨_, e1 ▸ ht⟩
    · by_cases e2 : a = r
      · exact ⟨_, e2 ▸ hr⟩
      · exact ⟨o, by rw [ho a e1 e2]; exact h⟩
  refine ⟨⟨by rw [List.length_set]; exact wf.len, fun k as mo h1 h2 => ?_, wf.nd, wf.nF, fun a h => ?_, fun a h => ?_, ?_, fun i p e => ?_⟩, ⟨keep, dom, fun _ h => .inl h, fun _ _ h => h, fun _ h => h, fun _ h => .inl h⟩⟩
  · by_cases hk : k = n
    · subst hk
      rw [List.getElem?_set_self hn] at h2
      cases h2
      rw [hm] at h1
      cases h1
      exact ⟨t, r, rfl, ht, hr⟩
    · rw [List.getElem?_set_ne (Ne.symm hk)] at h2
      refine (wf.obj k as mo h1 h2).fm (fun a o ha h => ?_) (fun _ h => h) fun a o hF h => keep a o h fun hm => wf.nF a hm hF
      -- the addresses of two objects differ
      have ne : ∀ b, b ∈ [t, r] → a ≠ b := fun b hb e => by
        subst e
        have nd := wf.nd
        have nd := List.pairwise_flatten.mp nd
        have pw := List.pairwise_iff_getElem.mp nd.2
        obtain ⟨k1, e1⟩ := List.getElem?_eq_some_iff.mp h1
        obtain ⟨k2, e2⟩ := List.getElem?_eq_some_iff.mp hm
        rcases Nat.lt_or_gt_of_ne hk with q | q
        · exact (pw k n k1 k2 q) a (by rw [e1]; exact ha) a (by rw [e2]; exact hb) rfl
        · exact (pw n k k2 k1 q) a (by rw [e2]; exact hb) a (by rw [e1]; exact ha) rfl
      rw [ho a (ne t (by simp)) (ne r (by simp))]
      exact h
  · obtain ⟨o, h'⟩ := wf.dom a h
    exact dom a o h'
  · obtain ⟨o, h'⟩ := wf.mdom a h
    exact dom a o h'
  · exact wf.scr.imp (fun ⟨h1, h2⟩ => ⟨h1, Rd.keep h2 fun o h => keep _ o h fun hm => wf.nF _ hm h1⟩) id
  · obtain ⟨e1, e2⟩ := wf.tab i p e
    refine ⟨e1, ?_⟩
    have ne : n ≠ i + 1 := fun q => by
      rw [q, e2] at hw
      cases hw
    rw [List.getElem?_set_ne ne]
    exact e2
theorem town_at {z : Zt} {m : Mu} {F : Fz} {w : W} {H : Hp} {n : Nat} {t : Addr} {c : Int} {rs : List (Int × Int)} (wf : Wf z m F w H) (ha : mainA m n = some t) (hw : w[n]? = some (.town c rs)) : ∃ r, m[n]? = some [t, r] ∧ H t = some (.dK (tK c r)) ∧ H r = some (.dK (rK rs)) ∧ t ≠ r := by
  unfold mainA at ha
  cases hm : m[n]? with
  | none => rw [hm] at ha; cases ha
  | some as =>
    rw [hm] at ha
    obtain ⟨t', r, e, h1, h2⟩ := wf.obj n as _ hm hw
    subst e
    cases (show some t' = some t from ha)
    refine ⟨r, rfl, h1, h2, fun e => ?_⟩
    subst e
    have nd := wf.nd
    have nd := List.pairwise_flatten.mp nd
    have := nd.1 _ (List.mem_of_getElem? hm)
    simp at this
section
variable {K : PySem.W.Frag} {z : Zt} {cl : Nat → Value} {Q : VK} {E : XK}
/-- behind the number that is left over -/
theorem draw_tail {m : Mu} {F : Fz} {w : W} {H H1 : Hp} {n : Nat} {t r : Addr} {c : Int} {rs : List (Int × Int)} {v0 x y : V} {at' rest many : Int} (hK : z.K = K) (wf : Wf z m F w H) (hm : m[n]? = some [t, r]) (hw : w[n]? = some (.town c rs)) (tr : t ≠ r)
    (ht : H1 t = some (.dK (tK (c + 1) r))) (hr : H1 r = some (.dK (rK rs))) (ho : ∀ b, b ≠ t → b ≠ r → H1 b = H b) (h1 : 0 < many) (h2 : many < 1073741824) (hl : rs.length < 1000)
    (p : Post ⟨z, cl, E, H, m, F⟩ m F H (.ok (.int (drawR (c + 1) rest many)) (w.set n (.town (c + 1) (if 10 ^ 18 ≤ rest then putI rs at' (rest / many) else rs)))) (Rep z) Q) (ex : x = .int at') (ey : y = .int rest) :
    (tSeq (tIfS (tTest (tOp rGe (tVar 4) (tOp rPw (tI 10) (tI 18)))) (tSeq (sDPut (tDGet (tVar 1) (tS "rests")) (tVar 3) (tOp rDv (tVar 4) (tVar 2))) (tRet (tOp rMd (tVar 4) (tVar 2)))) tNext)
      (tSeq (tAsg (tOp rMd (tOp rPl (tVar 4) (tOp rMl (tI 104729) (tDGet (tVar 1) (tS "count")))) (tI 4294967291)) (gName 5))
      (tSeq (tAsg (tOp rMd (tOp rPw (tVar 5) (tI 5)) (tI 4294967279)) (gName 5))
      (tRet (tOp rMd (tOp rDv (tOp rMd (tOp rPl (tOp rMl (tOp rDv (tVar 5) (tI 64)) (tI 69621)) (tVar 5)) (tI 4294967231)) (tI 8)) (tVar 2)))))) { nx := fun _ H' => Q .non H', rt := Q } [some v0, some (.ref t), some (.int many), some x, some y, none] H1 := by
  subst ex ey
  refine ⟨_, rfl, 10, 18, rfl, rfl, ⟨by omega, by omega, by decide⟩, rest, 10 ^ 18, rfl, rfl, _, rfl, ?_⟩
  by_cases hb : (10 : Int) ^ 18 ≤ rest
  · rw [decide_eq_true hb]
    refine iteT ?_
    rw [if_pos hb] at p
    have er : drawR (c + 1) rest many = rest % many := by unfold drawR; rw [if_pos hb]
    rw [er] at p
    refine ⟨_, rfl, _, rfl, rest, many, rfl, rfl, ⟨h1, h2⟩, ?_⟩
    refine ⟨_, rfl, t, .ref r, rfl, ?_, _, rfl, r, _, rfl, DPut.k (k := .inl at') hr ?_, ?_⟩
    · have := DGet.k (k := .inr "rests") ht
      rw [tK_rests] at this
      exact this
    · unfold rK
      rw [List.length_map, ← lim_eq]
      unfold LIM
      omega
    · refine ⟨_, rfl, _, rfl, rest, many, rfl, rfl, h1, ?_⟩
      rw [rK_put]
      obtain ⟨wf', fm⟩ := wf.town (H' := upd H1 r (.dK (rK (putI rs at' (rest / many))))) (c' := c + 1) (rs' := putI rs at' (rest / many)) hm hw (by rw [upd_ne tr]; exact ht) upd_same fun b b1 b2 => by rw [upd_ne b2]; exact ho b b1 b2
      exact p m F _ _ fm wf' (.int _)
  · rw [decide_eq_false hb]
    refine iteF ?_
    rw [if_neg hb] at p
    have er : drawR (c + 1) rest many = ((((rest + 104729 * (c + 1)) % 4294967291) ^ 5 % 4294967279) / 64 * 69621 + (((rest + 104729 * (c + 1)) % 4294967291) ^ 5 % 4294967279)) % 4294967231 / 8 % many := by unfold drawR; rw [if_neg hb]
    rw [er] at p
    generalize ha : (rest + 104729 * (c + 1)) % 4294967291 = a at p
    have a1 : 0 ≤ a := by rw [← ha]; exact Int.emod_nonneg _ (by decide)
    have a2 : a < 4294967291 := by rw [← ha]; exact Int.emod_lt_of_pos _ (by decide)
    generalize hbb : a ^ 5 % 4294967279 = b' at p
    have b1 : 0 ≤ b' := by rw [← hbb]; exact Int.emod_nonneg _ (by decide)
    have b2 : b' < 4294967279 := by rw [← hbb]; exact Int.emod_lt_of_pos _ (by decide)
    refine ⟨_, rfl, _, rfl, t, .int (c + 1), rfl, ?_, 104729, c + 1, rfl, rfl, .inl ⟨by decide, by decide⟩, rest, 104729 * (c + 1), rfl, rfl, rest + 104729 * (c + 1), 4294967291, rfl, rfl, (show (0 : Int) < 4294967291 by decide), ?_⟩
    · have := DGet.k (k := .inr "count") ht
      rw [tK_count] at this
      exact this
    refine ⟨_, rfl, a, 5, congrArg V.int ha, rfl, ⟨by omega, by omega, ?_⟩, a ^ 5, 4294967279, rfl, rfl, (show (0 : Int) < 4294967279 by decide), ?_⟩
    · have : (a.natAbs : Int) = a := by omega
      have h64 : (2 : Nat) ^ 64 = 18446744073709551616 := by decide
      rw [h64]
      omega
    refine ⟨_, rfl, b', 64, congrArg V.int hbb, rfl, ⟨by decide, by decide⟩, b' / 64, 69621, rfl, rfl, .inr ⟨by decide, by decide⟩, _, rfl, b' / 64 * 69621, b', rfl, congrArg V.int hbb, b' / 64 * 69621 + b', 4294967231, rfl, rfl, (show (0 : Int) < 4294967231 by decide), _, 8, rfl, rfl, ⟨by decide, by decide⟩, _, rfl, _, many, rfl, rfl, h1, ?_⟩
    obtain ⟨wf', fm⟩ := wf.town (H' := H1) (c' := c + 1) (rs' := rs) hm hw ht hr ho
    exact p m F _ _ fm wf' (.int _)

theorem rep3 {m : Mu} {F : Fz} {H : Hp} {vs : List V} {d0 d1 d2 : D} (r : RepAll z m F H vs [d0, d1, d2]) : ∃ v0 v1 v2, vs = [v0, v1, v2] ∧ Rep z m F H v0 d0 ∧ Rep z m F H v1 d1 ∧ Rep z m F H v2 d2 := by
  cases r with
  | cons h0 r =>
    cases r with
    | cons h1 r =>
      cases r with
      | cons h2 r =>
        cases r
        exact ⟨_, _, _, rfl, h0, h1, h2⟩
theorem at_nn {ns : List Int} {c : Int} (h : ns ≠ []) : 0 ≤ atS ns c ∧ atS ns c < ns.length ∧ (atS ns c).toNat < ns.length := by
  have hl : 0 < ns.length := List.length_pos_iff.mpr h
  unfold atS
  rw [if_neg h]
  have h1 := Int.emod_nonneg c (b := (ns.length : Int)) (by omega)
  have h2 := Int.emod_lt_of_pos c (b := (ns.length : Int)) (by omega)
  exact ⟨h1, h2, by omega⟩
theorem draw_read (N : List Str) (hN : N.length = 6) (hK : z.K = K) {vs : List V} {H : Hp} (h : spF z cl (drawP z.ns) 3 vs H Q E) : t_draw K { nx := fun _ H' => Q .non H', rt := Q } (L2.start N vs) H := by
  obtain ⟨hl, m, F, w, ds, wf, r, p⟩ := h
  have hd : ds.length = 3 := by rw [← r.length, hl]
  match ds, hd with
  | [d0, d1, d2], _ =>
  obtain ⟨v0, v1, v2, rfl, r0, r1, r2⟩ := rep3 r
  have e0 : isScr d0 = true := by
    cases q : isScr d0 with
    | true => rfl
    | false =>
      have p : Post ⟨z, cl, E, H, m, F⟩ m F H (if isScr d0 then (bnd (lift (obN d1)) fun n => bnd (lift (intD d2)) fun many => bnd (lift (townW w n)) fun p => if 0 < many ∧ many < 1073741824 ∧ p.2.length < 1000 then drawT z.ns p.1 p.2 many n else bad) w else .bad) (Rep z) Q := p
      rw [q] at p
      exact p.elim
  have p : Post ⟨z, cl, E, H, m, F⟩ m F H (if isScr d0 then (bnd (lift (obN d1)) fun n => bnd (lift (intD d2)) fun many => bnd (lift (townW w n)) fun p => if 0 < many ∧ many < 1073741824 ∧ p.2.length < 1000 then drawT z.ns p.1 p.2 many n else bad) w else .bad) (Rep z) Q := p
  rw [if_pos e0] at p
  obtain ⟨n, e1, p1⟩ := p.lift
  obtain ⟨many, e2, p2⟩ := p1.lift
  obtain ⟨⟨c, rs⟩, e3, p3⟩ := p2.lift
  have e3 := townW_some e3
  clear p p1 p2
  have ev0 := rep_scr e0 r0
  obtain ⟨t, ev1, ht⟩ := rep_ob e1 r1
  have e2 := intD_some e2
  subst e2
  have ev2 : v2 = .int many := by cases r2; rfl
  subst ev0 ev1 ev2
  by_cases hc : 0 < many ∧ many < 1073741824 ∧ rs.length < 1000
  · rw [if_pos hc] at p3
    obtain ⟨h1, h2, h3⟩ := hc
    obtain ⟨r, hm, h4, h5, tr⟩ := town_at wf ht e3
    obtain ⟨wf1, fm1⟩ := wf.town (H' := upd H t (.dK (tK (c + 1) r))) (c' := c + 1) (rs' := rs) hm e3 upd_same (by rw [upd_ne (Ne.symm tr)]; exact h5) fun b b1 b2 => by rw [upd_ne b1]
    have sq : SqL K (upd H t (.dK (tK (c + 1) r))) z.sa (z.ns.map V.int) := hK ▸ wf1.sq
    have es : L2.start N [.ref z.sa, .ref t, .int many] = [some (.ref z.sa), some (.ref t), some (.int many), none, none, none] := by
      unfold L2.start
      rw [hN]
      rfl
    rw [es]
    have g1 : DGet H t (.str "count") (some (.int c)) := by
      have := DGet.k (k := .inr "count") h4
      rw [tK_count] at this
      exact this
    have g2 : DGet (upd H t (.dK (tK (c + 1) r))) t (.str "count") (some (.int (c + 1))) := by
      have := DGet.k (H := upd H t (.dK (tK (c + 1) r))) (k := .inr "count") upd_same
      rw [tK_count] at this
      exact this
    have g3 : DGet (upd H t (.dK (tK (c + 1) r))) t (.str "rests") (some (.ref r)) := by
      have := DGet.k (H := upd H t (.dK (tK (c + 1) r))) (k := .inr "rests") upd_same
      rw [tK_rests] at this
      exact this
    have hr1 : upd H t (.dK (tK (c + 1) r)) r = some (.dK (rK rs)) := by rw [upd_ne (Ne.symm tr)]; exact h5
    have put : DPut H t (.str "count") (.int (c + 1)) (upd H t (.dK (tK (c + 1) r))) := by
      have := DPut.k (k := .inr "count") (v := .int (c + 1)) h4 (by rw [← lim_eq]; show 2 < LIM; decide)
      rw [tK_put] at this
      exact this
    refine ⟨_, rfl, t, .int c, rfl, g1, c, 1, rfl, rfl, _, rfl, t, _, rfl, put, ?_⟩
    have tail' : ∀ x y, x = V.int (atS z.ns (c + 1)) → y = V.int (restI z.ns rs (atS z.ns (c + 1))) → _ := fun x y => draw_tail (v0 := .ref z.sa) (x := x) (y := y) (H1 := upd H t (.dK (tK (c + 1) r))) hK wf hm e3 tr upd_same hr1 (fun b b1 b2 => by rw [upd_ne b1]) h1 h2 h3 p3
    have tru : TruV K (.ref z.sa) (upd H t (.dK (tK (c + 1) r))) (!(z.ns.map V.int).isEmpty) := .inl ⟨_, sq, rfl⟩
    have gr : DGet (upd H t (.dK (tK (c + 1) r))) r (.int (atS z.ns (c + 1))) ((lookI rs (atS z.ns (c + 1))).map V.int) := by
      have := DGet.k (k := .inl (atS z.ns (c + 1))) hr1
      rw [rK_val] at this
      exact this
    have gd : ∀ x : Int, ((lookI rs (atS z.ns (c + 1))).map V.int).getD (.int x) = .int ((lookI rs (atS z.ns (c + 1))).getD x) := fun x => by cases lookI rs (atS z.ns (c + 1)) <;> rfl
    by_cases hns : z.ns = []
    · have ea : atS z.ns (c + 1) = 0 := by unfold atS; rw [if_pos hns]
      have k0 : (!(z.ns.map V.int).isEmpty) = false := by rw [hns]; rfl
      rw [k0] at tru
      refine ⟨_, rfl, false, tru, iteF ?_⟩
      refine ⟨_, rfl, t, .ref r, rfl, g3, r, rfl, .inl ⟨_, .inl hr1⟩, _, rfl, _, rfl, false, tru, iteF ⟨_, ea ▸ gr, ?_⟩⟩
      have ex : ((lookI rs 0).map V.int).getD (.int 0) = .int (restI z.ns rs (atS z.ns (c + 1))) := by
        unfold restI
        rw [if_pos hns, ← gd, ea]
      exact tail' _ _ (congrArg V.int ea.symm) ex
    · obtain ⟨a1, a2, a3⟩ := at_nn (c := c + 1) hns
      have k0 : (!(z.ns.map V.int).isEmpty) = true := by
        cases q : z.ns with
        | nil => exact absurd q hns
        | cons x l => rfl
      rw [k0] at tru
      have hlen : (0 : Int) < ((z.ns.map V.int).length : Nat) := by
        rw [List.length_map]
        have := List.length_pos_iff.mpr hns
        omega
      refine ⟨_, rfl, true, tru, iteT ⟨_, rfl, t, .int (c + 1), rfl, g2, _, rfl, _, _, rfl, .inl ⟨_, sq, rfl⟩, c + 1, _, rfl, rfl, hlen, ?_⟩⟩
      have ea : (c + 1) % (((z.ns.map V.int).length : Nat) : Int) = atS z.ns (c + 1) := by
        unfold atS
        rw [if_neg hns, List.length_map]
      have hat : atI (z.ns.map V.int) (atS z.ns (c + 1)) = some (.int (z.ns.getD (atS z.ns (c + 1)).toNat 0)) := by
        have e : (((atS z.ns (c + 1)).toNat : Nat) : Int) = atS z.ns (c + 1) := by omega
        rw [← e]
        refine atI_nat ?_
        rw [List.getElem?_map, List.getD_eq_getElem?_getD, Int.toNat_natCast, List.getElem?_eq_getElem a3]
        rfl
      refine ⟨_, rfl, t, .ref r, rfl, g3, r, rfl, .inl ⟨_, .inl hr1⟩, _, rfl, _, rfl, true, tru, iteT ⟨_, rfl, _, rfl, z.sa, _, _, _, rfl, congrArg V.int ea, sq, hat, _, ea ▸ gr, ?_⟩⟩
      have ex : ((lookI rs (atS z.ns (c + 1))).map V.int).getD (.int (z.ns.getD (atS z.ns (c + 1)).toNat 0)) = .int (restI z.ns rs (atS z.ns (c + 1))) := by
        unfold restI
        rw [if_neg hns, gd]
      exact tail' _ _ (congrArg V.int ea) (by rw [ea]; exact ex)
  · rw [if_neg hc] at p3
    exact p3.elim

def t_begun : TS := tRet (tDisp [(tS "count", tI 0), (tS "rests", tDNewK)])
theorem begun_read (N : List Str) {vs : List V} {H : Hp} (h : spF z cl begunP 0 vs H Q E) : t_begun { nx := fun _ H' => Q .non H', rt := Q } (L2.start N vs) H := by
  obtain ⟨hl, m, F, w, ds, wf, r, p⟩ := h
  have hd : ds.length = 0 := by rw [← r.length, hl]
  match ds, hd with
  | [], _ =>
  have p : Post ⟨z, cl, E, H, m, F⟩ m F H (begunW w) (Rep z) Q := p
  unfold begunW at p
  split at p
  · rename_i wr
    have lm := wf.len
    cases m with
    | nil => simp at lm
    | cons a0 mr =>
    have e0 : a0 = [] := wf.obj 0 a0 .non rfl rfl
    subst e0
    intro a ha q hq
    have nq : q ≠ a := fun e => by
      rw [e, upd_same] at hq
      cases hq
    have hq' : H q = none := by
      rw [upd_ne nq] at hq
      exact hq
    refine ⟨?_, [(.inr "count", .int 0), (.inr "rests", .ref q)], rfl, (show 2 ≤ 15 by decide), ?_⟩
    · rw [upd_ne (Ne.symm nq), upd_same]
    have em : mergeK [] [(.inr "count", V.int 0), (.inr "rests", .ref q)] = tK 0 q := by
      have ne : (Sum.inr ("count" : Str) : Key) ≠ Sum.inr ("rests" : Str) := by decide
      show putK (putK [] (.inr "count") (.int 0)) (.inr "rests") (.ref q) = tK 0 q
      have e1 : putK ([] : List (Key × V)) (.inr "count") (.int 0) = [(.inr "count", .int 0)] := rfl
      rw [e1]
      unfold putK
      rw [if_neg (by simpa using ne)]
      rfl
    rw [em]
    generalize hH : upd (upd (upd H a (.dK [])) q (.dK [])) a (.dK (tK 0 q)) = H'
    have h1 : H' a = some (.dK (tK 0 q)) := by rw [← hH]; exact upd_same
    have h2 : H' q = some (.dK []) := by rw [← hH, upd_ne nq, upd_same]
    have ho : ∀ b, b ≠ a → b ≠ q → H' b = H b := fun b b1 b2 => by rw [← hH, upd_ne b1, upd_ne b2, upd_ne b1]
    have old : ∀ b o, H b = some o → H' b = some o := fun b o e => by
      rw [ho b (ne_of_none e ha) (ne_of_none e hq')]
      exact e
    have fl : ([a, q] :: mr).flatten = a :: q :: ([] :: mr : Mu).flatten := by rw [List.flatten_cons, List.flatten_cons]; rfl
    have hmain : ∀ k b, mainA ([] :: mr) k = some b → mainA ([a, q] :: mr) k = some b := fun k b hb => by
      cases k with
      | zero => cases (show none = some b from hb)
      | succ k => exact hb
    have na := wf_new wf ha
    have nq' := wf_new wf hq'
    refine p ([a, q] :: mr) F H' (.ref a) ⟨fun b o e _ => old b o e, fun b o e => ⟨o, old b o e⟩, fun b hb => ?_, fun n b hb => ?_, fun _ h => h, fun _ h => .inl h⟩ ⟨?_, fun n as mo e1 e2 => ?_, ?_, fun b hb hF => ?_, fun b hF => ?_, fun b hb => ?_, ?_, fun i p e => wf.tab i p e⟩ (.ob rfl)
    · rw [fl] at hb
      rcases List.mem_cons.mp hb with e | hb
      · exact .inr (e ▸ ha)
      · rcases List.mem_cons.mp hb with e | hb
        · exact .inr (e ▸ hq')
        · exact .inl hb
    · cases n with
      | zero => cases (show none = some b from hb)
      | succ n => exact hb
    · exact lm
    · cases n with
      | zero =>
        cases e1
        cases e2
        exact ⟨a, q, rfl, h1, h2⟩
      | succ n => exact (wf.obj (n + 1) as mo e1 e2).fm (fun b o _ e => old b o e) (fun _ h => h) (fun b o _ e => old b o e) hmain
    · rw [fl]
      refine List.nodup_cons.mpr ⟨fun hm => ?_, List.nodup_cons.mpr ⟨nq'.2, wf.nd⟩⟩
      rcases List.mem_cons.mp hm with e | hm
      · exact nq e.symm
      · exact na.2 hm
    · rw [fl] at hb
      rcases List.mem_cons.mp hb with e | hb
      · exact na.1 (e ▸ hF)
      · rcases List.mem_cons.mp hb with e | hb
        · exact nq'.1 (e ▸ hF)
        · exact wf.nF b hb hF
    · obtain ⟨o, e⟩ := wf.dom b hF
      exact ⟨o, old b o e⟩
    · rw [fl] at hb
      rcases List.mem_cons.mp hb with e | hb
      · exact ⟨_, e ▸ h1⟩
      · rcases List.mem_cons.mp hb with e | hb
        · exact ⟨_, e ▸ h2⟩
        · obtain ⟨o, e⟩ := wf.mdom b hb
          exact ⟨o, old b o e⟩
    · exact wf.scr.imp (fun ⟨h1, h2⟩ => ⟨h1, Rd.keep h2 fun o h => old _ o h⟩) id
  · exact p.elim
end

section
variable {P : Program} {w : World} {K : PySem.W.Frag} {mg : Str → Option Value} {base : Heap}
theorem prim_ok {T : Tb} {fd : Nat → FuncData} {ca : Nat → Addr} {z : Zt} {cl : Nat → Value} {cf : CF} {k : Nat} (hw : z.wd = w) (A0 : Fx T fd ca z cl K mg) (IH : ∀ j, j < T.fn.length → FnOk P w K mg base (L2.CX P w) k (z.fa j) (fd j) (T.ps j) (spF z cl (cf j) (T.ps j).length))
    {x : Str} {st : Stmt} {f : Addr} {fdat : FuncData} {N ps : List Str} {pr : List D → M D} {t : TS} (F : FunD K x x (defArgs st) (defBody st) (defScope st) [] [] f fdat) (hs : scB N ps (defScope st) ⟨ps.length, N.length, .nil⟩ = true)
    (hb : ∀ (X : Cx) (b : Bx), X.K = K → Ok T fd ca b cf k X N (defScope st) (fun _ => true) → PassesOwn (model X.prog X.w) X.A X.env X.xe → PSs X (defBody st) t)
    (hr : ∀ (vs : List V) (H : Hp) (Q : VK) (E : XK), spF z cl pr ps.length vs H Q E → t { nx := fun _ H' => Q .non H', rt := Q } (L2.start N vs) H) :
    FnOk P w K mg base (L2.CX P w) (k + 5) f fdat ps (spF z cl pr ps.length) := by
  simp only [scB, Bool.and_eq_true, decide_eq_true_eq, Bool.not_eq_true'] at hs
  obtain ⟨⟨⟨⟨⟨⟨⟨⟨⟨h1, h2⟩, h3⟩, h4⟩, h5⟩, h6⟩, h7⟩, h8⟩, h9⟩, h10⟩ := hs
  have hkd : (defScope st).kind = .function := by
    split at h8
    · assumption
    · cases h8
  have S : FnScope N ps (defScope st) := ⟨hkd, h9, h10, h1, h2, fun y hy => loc_of (List.all_eq_true.mp h3 y hy), fun y hy e => by
    have := List.all_eq_true.mp h4 y hy
    rw [e] at this
    cases this⟩
  refine F.ok S (fun vs H Q E h => h.1) fun cdv A outer s H vs Q E hr' h => ?_
  have O : Ok T fd ca (⟨z, cl, E, H, [], fun _ => False⟩ : Bx) cf k (cxOf (L2.CX P w) P w K mg base N x (defScope st) f cdv A outer s H E) N (defScope st) (fun _ => true) :=
    { eN := rfl, nd := h1, esc := rfl, kd := hkd, efv := rfl, calm := rfl, room := hr'.mono (by omega), rm2 := hr'.mono (by omega), cs := A0.cs, ew := hw, eK := A0.eK, tk := takes_of rfl rfl rfl rfl, fns := IH, mgf := A0.mgf, kp := A0.kp, bd := A0.bd, kb := A0.kb, bl := A0.bl, gi := A0.gi, ex := A0.ex }
  exact ⟨t, hb _ _ rfl O (passes_of rfl), hr vs H Q E h⟩
end
section
variable {T : Tb} {fd : Nat → FuncData} {ca : Nat → Addr} {b : Bx} {cf : CF} {k fu : Nat} {X : Cx} {N : List Str} {sc : Scope} {fv : Str → Bool} (O : Ok T fd ca b cf k X N sc fv)
include O
theorem v_ {i : Nat} {x : Str} {pos : Pos} (h : vB N sc i x = true := by decide +kernel) : PE X (.Name x pos) (tVar i) := pe_var (O.v h).1 (O.v h).2.1 (O.v h).2.2.1 (O.v h).2.2.2
theorem as_ {i : Nat} {y : Str} {py pos : Pos} {e : Expr} {te : TE} (he : PE X e te) (h : tB N sc fv i y = true := by decide +kernel) (hn : notComp e = true := by rfl) : PS X (.Assign [.Name y py] e pos) (tAsg te (gName i)) :=
  ps_set (O.t h).1 (O.t h).2.1 (O.t h).2.2.1 he (swaps_no hn) (O.t h).2.2.2
theorem len_ {e : Expr} {te : TE} {p1 pos : Pos} (he : PE X e te) (h : bB T sc "len" = true := by decide +kernel) (hs : notStar e = true := by rfl) : PE X (.Call (.Name "len" p1) [e] [] pos) (tLn X.K te) :=
  pe_callB call_len (O.blt h).1 (O.blt h).2.1 rfl (pa_cons he pa_nil (star_cons hs)) (O.blt h).2.2.2 (O.blt h).2.2.1 (star_cons hs) rfl
theorem Ok.u1 : X.A.units + 1 < cLine := by have := O.un; omega
end
end Ev

set_option Elab.async false
set_option linter.all false
set_option maxRecDepth 100000
set_option autoImplicit false
namespace Ev
open PySem PySem.Spec PyProof.Rows L2
section
variable {z : Zt} {m : Mu} {F S : Fz} {w : W} {H H' : Hp}
theorem Fm.many (hk : ∀ b o, H b = some o → H' b = some o) (hn : ∀ b, S b → H b = none) : Fm m F H m (fun b => F b ∨ S b) H' :=
  ⟨fun b o e _ => hk b o e, fun b o e => ⟨o, hk b o e⟩, fun _ h => .inl h, fun _ _ h => h, fun _ h => .inl h, fun b h => h.imp id (hn b)⟩
theorem Wf.many (wf : Wf z m F w H) (hk : ∀ b o, H b = some o → H' b = some o) (hn : ∀ b, S b → H b = none) (hs : ∀ b, S b → ∃ o, H' b = some o) : Wf z m (fun b => F b ∨ S b) w H' :=
  wf.more (fun _ h => .inl h) hk fun b h => by
    rcases h with h | h
    · obtain ⟨o, e⟩ := wf.dom b h
      exact ⟨.inl h, o, hk b o e⟩
    · exact ⟨.inr (.inl (hn b h)), hs b h⟩
end
section
variable {X : Cx} {b : Bx} [KEq X b.z] {pins : List (Addr × Obj)} {σ : L2.St} {s : Shared}
/-- all keys and values are ints -/
theorem ints_kv {z : Zt} {m : Mu} {F : Fz} {H : Hp} : ∀ {ks : List (Key × V)} {kvs : List (D × D)}, RepKV z m F H ks kvs → (∀ p ∈ kvs, isInt p.1 = true ∧ isInt p.2 = true) → ∃ ps : List (Int × Int), ks = ps.map (fun p => (.inl p.1, .int p.2)) ∧ kvs = ps.map fun p => (.int p.1, .int p.2)
  | _, _, .nil, _ => ⟨[], rfl, rfl⟩
  | _, _, .cons (k := k) (v := v) (d := d) h t, hh => by
    obtain ⟨ps, e1, e2⟩ := ints_kv t fun p hp => hh p (List.mem_cons_of_mem _ hp)
    obtain ⟨h1, h2⟩ := hh _ List.mem_cons_self
    cases k with
    | inr x => cases h1
    | inl i =>
      cases d with
      | int j =>
        cases h
        exact ⟨(i, j) :: ps, by rw [e1]; rfl, by rw [e2]; rfl⟩
      | _ => cases h2
def prD (p : Int × Int) : D := .tuple [.int p.1, .int p.2]
theorem alike_pr (p q : Int × Int) : PySem.W.alike (prD p) (prD q) = true := rfl
theorem sitems_core (hc : X.calm = true) (hu : X.A.units + 66 < cLine) {H : Hp} {Q : VK} {m : Mu} {F : Fz} {w : W} {d r : Addr} {ps : List (Int × Int)} (I : Inv X pins σ H s) (wf : Wf b.z m F w H) (hd : Rd H d (.dK (ps.map fun p => (.inl p.1, .int p.2)))) (view : s.heap.IsItemsView r d)
    (p : Post b m F H (.ok (.list (sortD (ps.map prD))) w) (Rep b.z) Q) : wpAny (model X.prog X.w) X.A (call (.builtin "sorted") [.ref r]) (EP X pins σ Q) X.xe s := by
  obtain ⟨hz, _, vs, kv, hdo⟩ := dk_rd I.hok hd
  rw [List.length_map] at hz
  obtain ⟨ep, hat⟩ := hdo.dictAt
  obtain ⟨es, hraw, hes, hent⟩ := PySem.Heap.DictAt.raw hat
  have lk : ps.length = vs.length := by
    have := Paired.length kv
    rw [List.length_map] at this
    exact this
  have hh : X.A.handled = none := I.ok.hd hc
  refine DT.sortedI (es := es) (ep := ep) hh view hraw (by omega) fun h' tk as hk hlt hl hG => ?_
  have lap : as.length = ps.length := by omega
  have nd : as.Nodup := List.Pairwise.imp (fun h => Nat.ne_of_lt h) hG.rise
  -- the pairs that were made
  have pr : ∀ (j : Nat) (a : Addr), as[j]? = some a → ∃ (q : Int × Int) (t1 t2 : Tok), ps[j]? = some q ∧ h'.get? a = some { cls := .type "tuple", data := .seq #[Value.int q.1 t1, Value.int q.2 t2] } := by
    intro j a hj
    obtain ⟨en, he, hg⟩ := hG.pairs j a hj
    have hjl : j < ps.length := by
      have := (List.getElem?_eq_some_iff.mp hj).1
      omega
    have hpj : ps[j]? = some ps[j] := List.getElem?_eq_getElem hjl
    have hkj : (ps.map fun p => ((.inl p.1, .int p.2) : Key × V))[j]? = some (.inl ps[j].1, .int ps[j].2) := by rw [List.getElem?_map, hpj]; rfl
    obtain ⟨kv', hv1, hv2⟩ := LiI.paired_get kv hkj
    have hje : j < es.size := by omega
    obtain ⟨k1, k2⟩ := hent j hje kv'.1 kv'.2 hv1
    have een : es[j] = en := Option.some.inj ((Array.getElem?_eq_getElem hje).symm.trans he)
    rw [een] at k1 k2
    obtain ⟨e1, e2⟩ := hv2
    have e1 : Sum.inl ps[j].1 = kv'.1 := e1
    rw [← e1] at k1
    rcases keyIs_shape (show keyIs (.inl ps[j].1) en.key = true from k1) with ⟨i, t, ei, ev⟩ | ⟨x, t, ei, _⟩
    · cases ei
      obtain ⟨t2, e3⟩ := (show RelV (.int ps[j].2) kv'.2 from e2)
      refine ⟨ps[j], t, t2, hpj, ?_⟩
      rw [hg, ev, k2, e3]
    · cases ei
  -- the heap of the sort
  have hob : (h'.push { cls := .type "list", data := .seq (as.map Value.ref).toArray }).get? h'.objs.size = some (seqObj "list" (as.map Value.ref).toArray 0) := Heap.get?_push_size _ rfl
  have kb : ∀ c o, s.heap.get? c = some o → (h'.push { cls := .type "list", data := .seq (as.map Value.ref).toArray }).get? c = some o := fun c o e => Heap.get?_push_of_some _ (hk c o e)
  have ne0 : ∀ c o, h'.get? c = some o → c ≠ h'.objs.size := fun c o e => Nat.ne_of_lt (Heap.lt_size e)
  have ka : ∀ c o, h'.get? c = some o → (h'.push { cls := .type "list", data := .seq (as.map Value.ref).toArray }).get? c = some o := fun c o e => Heap.get?_push_of_some _ e
  generalize h'.push { cls := .type "list", data := .seq (as.map Value.ref).toArray } = h2 at hob kb ka ⊢
  have each : PySem.W.EachIs (fun u (q : Addr × (Int × Int)) => u = Value.ref q.1 ∧ q ∈ as.zip ps) (as.map Value.ref) (as.zip ps) := by
    have key : ∀ (as : List Addr) (ps : List (Int × Int)), as.length = ps.length → PySem.W.EachIs (fun u (q : Addr × (Int × Int)) => u = Value.ref q.1) (as.map Value.ref) (as.zip ps) := by
      intro as
      induction as with
      | nil => intro ps h; cases ps with
        | nil => exact .nil
        | cons _ _ => cases h
      | cons a as ih => intro ps h; cases ps with
        | nil => cases h
        | cons q ps => exact .cons rfl (ih ps (Nat.succ.inj h))
    exact (PySem.W.each_mem (key as ps lap)).mono fun u q ⟨h1, h2⟩ => ⟨h1, h2⟩
  have er : PySem.W.EachIs (fun u (q : Addr × (Int × Int)) => ∃ as', Reads h2 u (prD q.2) as' ∧ h'.objs.size ∉ as') (as.map Value.ref) (as.zip ps) := by
    refine each.mono fun u q ⟨h1, h2'⟩ => ?_
    subst h1
    obtain ⟨j, hj⟩ := List.mem_iff_getElem?.mp h2'
    obtain ⟨j1, j2⟩ := List.getElem?_zip_eq_some.mp hj
    obtain ⟨q', t1, t2, e1, e2⟩ := pr j q.1 j1
    have eq : q' = q.2 := Option.some.inj (e1.symm.trans j2)
    subst eq
    refine ⟨[], .tuple (ka _ _ e2) rfl rfl ?_, by simp⟩
    exact .cons (as := []) (bs := []) (.int _ _) (.cons (as := []) (bs := []) (.int _ _) .nil)
  refine PySem.W.list_sort_data (s := { s with heap := h2, toks := tk }) (A := X.A.in1) (enc := fun q : Addr × (Int × Int) => prD q.2) hob each er ?_ ?_ ?_ ?_ fun out hlen ho => ?_
  · intro x hx y hy
    obtain ⟨q, _, rfl⟩ := List.mem_map.mp hx
    obtain ⟨q', _, rfl⟩ := List.mem_map.mp hy
    exact alike_pr _ _
  · refine .inl fun x hx => ?_
    obtain ⟨q, _, rfl⟩ := List.mem_map.mp hx
    exact ⟨_, _, rfl⟩
  · rw [List.length_zip]; omega
  · intro q _
    show X.A.units + 1 + 1 + 1 < cLine
    omega
  · -- behind the sort
    generalize hms : (as.zip ps).mergeSort (PySem.W.dataLe false fun q : Addr × (Int × Int) => prD q.2) = zs at ho
    have hmem : ∀ q ∈ zs, q ∈ as.zip ps := fun q hq => by rw [← hms] at hq; exact List.mem_mergeSort.mp hq
    have hzl : zs.length = ps.length := by
      rw [← hms, List.length_mergeSort, List.length_zip]
      omega
    have hdata : zs.map (fun q => prD q.2) = sortD (ps.map prD) := by
      rw [sortD_merge, ← hms]
      have e0 : ps.map prD = (as.zip ps).map fun q => prD q.2 := by
        have : (as.zip ps).map (·.2) = ps := List.map_snd_zip (by omega)
        rw [show ((as.zip ps).map fun q => prD q.2) = ((as.zip ps).map (·.2)).map prD by rw [List.map_map]; rfl, this]
      rw [e0]
      exact PySem.W.sort_maps (fun q : Addr × (Int × Int) => prD q.2) fun _ _ _ _ => rfl
    have hout : out = zs.map fun q => Value.ref q.1 := by
      have key : ∀ {us : List Value} {l : List (Addr × (Int × Int))}, PySem.W.EachIs (fun u (q : Addr × (Int × Int)) => u = Value.ref q.1 ∧ q ∈ as.zip ps) us l → us = l.map fun q => Value.ref q.1 := by
        intro us l h
        induction h with
        | nil => rfl
        | cons h _ ih => rw [List.map_cons, ← ih, h.1]
      exact key ho
    have kF : ∀ c o, c ≠ h'.objs.size → h2.get? c = some o → (sortedHeap h2 h'.objs.size (as.map Value.ref) (List.toArray out)).get? c = some o := fun c o hc e => (PyProof.Rows.sortedHeap_old hc (Heap.lt_size e)).trans e
    have kS : ∀ c o, s.heap.get? c = some o → (sortedHeap h2 h'.objs.size (as.map Value.ref) (List.toArray out)).get? c = some o := fun c o e => kF c o (ne0 _ _ (hk c o e)) (kb c o e)
    obtain ⟨eF, heF⟩ := PyProof.Rows.sortedHeap_at (vs := as.map Value.ref) (out := List.toArray out) hob
    have I1 : Inv X pins σ H { s with heap := sortedHeap h2 h'.objs.size (as.map Value.ref) (List.toArray out), toks := tk } := I.kept (t' := tk) kS
    have hn0 : H h'.objs.size = none := I.hok.fresh (Nat.le_of_lt hlt)
    have rv : Vals (zs.map fun q => V.ref q.1) out := by
      rw [hout]
      have key : ∀ l : List (Addr × (Int × Int)), Vals (l.map fun q => V.ref q.1) (l.map fun q => Value.ref q.1) := by
        intro l
        induction l with
        | nil => exact .nil
        | cons q l ih => exact .cons rfl ih
      exact key zs
    have I2 : Inv X pins σ (upd H h'.objs.size (.lst (zs.map fun q => V.ref q.1))) { s with heap := sortedHeap h2 h'.objs.size (as.map Value.ref) (List.toArray out), toks := tk } :=
      I1.take (h' := sortedHeap h2 h'.objs.size (as.map Value.ref) (List.toArray out)) (t' := tk) (fun c ob _ e => e) (I.fpOk (Nat.le_of_lt hlt) hn0) ⟨by rw [List.length_map]; omega, out, eF, rv, by simpa using heF⟩
    obtain ⟨H2, I3, g, qt⟩ := takeF (P := fun a o => ∃ (j : Nat) (q : Int × Int) (ob : Obj), as[j]? = some a ∧ ps[j]? = some q ∧ ob.dict = none ∧ o = .frz ob (.tup [.int q.1, .int q.2])) I as _ I2 nd fun a ha => by
      obtain ⟨j, hj⟩ := List.mem_iff_getElem?.mp ha
      obtain ⟨q, t1, t2, e1, e2⟩ := pr j a hj
      have hal : s.heap.objs.size ≤ a := Nat.le_of_lt (hG.above a ha)
      refine ⟨hal, ?_, _, ⟨j, q, _, hj, e1, rfl, rfl⟩, fun H3 => ⟨kF _ _ (ne0 _ _ e2) (ka _ _ e2), (by rw [sizeLine_eq]; show 2 ≤ 16777216; omega), [Value.int q.1 t1, Value.int q.2 t2], .cons ⟨_, rfl⟩ (.cons ⟨_, rfl⟩ .nil), ⟨_, kF _ _ (ne0 _ _ e2) (ka _ _ e2), rfl, 0, rfl⟩⟩⟩
      rw [upd_ne (ne0 _ _ e2)]
      exact I.hok.fresh hal
    have gr : ∀ c o, H c = some o → H2 c = some o := fun c o e => g c o (by rw [upd_ne (ne_of_none e hn0)]; exact e)
    have hL : H2 h'.objs.size = some (.lst (zs.map fun q => V.ref q.1)) := g _ _ upd_same
    have hT : ∀ q ∈ zs, (∃ ob : Obj, H2 q.1 = some (.frz ob (.tup [.int q.2.1, .int q.2.2])) ∧ ob.dict = none) ∧ q.1 ∈ as := fun q hq => by
      obtain ⟨j, hj⟩ := List.mem_iff_getElem?.mp (hmem q hq)
      obtain ⟨j1, j2⟩ := List.getElem?_zip_eq_some.mp hj
      obtain ⟨vs', ⟨i, q', ob, i1, i2, hd, ev⟩, hH⟩ := qt q.1 (List.mem_of_getElem? j1)
      have eij : i = j := (List.getElem?_inj (List.getElem?_eq_some_iff.mp i1).1 nd).mp (i1.trans j1.symm)
      subst eij
      have ee : q' = q.2 := Option.some.inj (i2.symm.trans j2)
      rw [ev, ee] at hH
      exact ⟨⟨ob, hH, hd⟩, List.mem_of_getElem? j1⟩
    refine ⟨.ref h'.objs.size, H2, I3, rfl, ?_⟩
    have hn : ∀ c, (c = h'.objs.size ∨ c ∈ as) → H c = none := fun c hc => by
      rcases hc with e | hc
      · exact e ▸ hn0
      · exact I.hok.fresh (Nat.le_of_lt (hG.above c hc))
    refine p m _ H2 _ (Fm.many gr hn) (wf.many gr hn fun c hc => ?_) ?_
    · rcases hc with e | hc
      · exact ⟨_, e ▸ hL⟩
      · obtain ⟨vs', _, hH⟩ := qt c hc
        exact ⟨_, hH⟩
    · rw [← hdata]
      refine .lst (.inr (.inl rfl)) hL ?_
      have key : ∀ l : List (Addr × (Int × Int)), (∀ q ∈ l, (∃ ob : Obj, H2 q.1 = some (.frz ob (.tup [.int q.2.1, .int q.2.2])) ∧ ob.dict = none) ∧ q.1 ∈ as) → RepAll b.z m (fun c => F c ∨ c = h'.objs.size ∨ c ∈ as) H2 (l.map fun q => V.ref q.1) (l.map fun q => prD q.2) := by
        intro l
        induction l with
        | nil => intro _; exact .nil
        | cons q l ih =>
          intro hl
          obtain ⟨⟨ob, t1, hd⟩, t2⟩ := hl q List.mem_cons_self
          exact .cons (.tup (.new (.inr (.inr t2)) hd t1) (.cons (.int _) (.cons (.int _) .nil))) (ih fun q' hq' => hl q' (List.mem_cons_of_mem _ hq'))
      exact key zs hT
end
section
variable {T : Tb} {fd : Nat → FuncData} {ca : Nat → Addr} {b : Bx} {cf : CF} {k fu : Nat} {X : Cx} {N : List Str} {sc : Scope} {fv : Str → Bool} (O : Ok T fd ca b cf k X N sc fv)
include O
variable {x : Str} {ca1 : E} {p1 p2 pos apos cpos : Pos}
theorem g_sitems (ha : PE X (.Name x p1) (rR b (evE cf ca1))) (h : bB T sc "sorted" = true := by decide +kernel) (hline : (apos.endLine == cpos.line) = true := by rfl) :
    PE X (.Call (.Name "sorted" p2) [.Call (.Attribute (.Name x p1) "items" apos) [] [] cpos] [] pos) (rE b (evE cf (.bi .sitems ca1))) := by
  have hs : starEach [.Call (.Attribute (.Name x p1) "items" apos) [] [] cpos] X.env = (false, eval (.Call (.Attribute (.Name x p1) "items" apos) [] [] cpos) X.env) :: starEach [] X.env := rfl
  refine ⟨fun pins s σ H Q I hq => ?_⟩
  obtain ⟨m, F, s', w, wf, sl, p⟩ := hq
  have p : Post b m F H (bnd (evE cf ca1 s') (fun x => lift (biD .sitems x)) w) (Rep b.z) Q := by simpa only [evE] using p
  refine wpAny_Call_Name_kw (ld_blt I (O.blt h).1 (O.blt h).2.1 rfl ?_ (by decide) (by decide))
  refine PyProof.Rows.callWith_builtin1 ?_ hs rfl
  rw [hs]
  show wpAny _ _ (spliced ((false, eval (.Call (.Attribute (.Name x p1) "items" apos) [] [] cpos) X.env) :: backTo pos (starEach [] X.env))) _ _ s
  refine Calls.spliced_cons ?_
  refine wpAny_Call_method (T := "dict") (id := "dict.items") rfl rfl hline PySem.F.plainAttrs_dict PySem.F.slot_dict_items PySem.F.type_dict_items (thn (ha.run pins s σ H _ I ⟨m, F, s', w, wf, sl, p.bind⟩) fun u s1 ⟨xv, H1, I1, rx, m1, F1, d, w1, f1, wf1, r1, p1⟩ => ?_)
  have p1 : Post b m1 F1 H1 (lift (sitemsD d) w1) (Rep b.z) Q := p1
  obtain ⟨d', e, p2⟩ := p1.lift1
  unfold sitemsD at e
  split at e
  · rename_i kvs
    split at e
    · rename_i hc
      cases e
      simp only [Bool.and_eq_true, List.all_eq_true, decide_eq_true_eq] at hc
      obtain ⟨hc1, hc2⟩ := hc
      obtain ⟨da, ks, rfl, hd, hr⟩ := r1.dict (List.all_eq_true.mpr fun q hq => by
        have := (hc1 q hq).1
        cases q1 : q.1 with
        | int i => rfl
        | _ => rw [q1] at this; cases this)
      obtain ⟨ps, e1, e2⟩ := ints_kv hr hc1
      subst e1 e2
      obtain rfl : u = Value.ref da := rx
      obtain ⟨hz, hs0, vs, kv, hdo⟩ := dk_rd I1.hok hd
      obtain ⟨ep, hat⟩ := hdo.dictAt
      have I2 : Inv X pins σ H1 { s1 with heap := s1.heap.push { cls := .type "dict_items", data := .fields #[.ref da] } } := I1.kept (t' := s1.toks) fun c ob q => Heap.get?_push_of_some _ q
      refine ⟨hdo.typeIs, hdo.mapOf.noDict, ?_⟩
      show wpAny _ _ (callWith cpos (.builtin "dict.items") [.ref da] [] []) _ X.xe s1
      refine method_meetsIn PySem.F.slot_dict_items PySem.F.entry_dict_items rfl (PySem.evalArgs_none ⟨rfl, hdo.typeIs, PySem.F.args_dict_items_1 _, _, meets_dict_items (mixKind X.prog X.w) da hs0, ⟨vs, hdo⟩, ?_⟩)
      refine Calls.spliced_nil ?_
      refine sitems_core O.calm (by have := O.un; omega) I2 wf1 hd ⟨_, Heap.get?_push_size _ rfl, rfl, rfl⟩ ?_
      rw [List.map_map] at p2
      exact p2
    · cases e
  · cases e
end
end Ev

set_option Elab.async false
set_option linter.all false
set_option maxRecDepth 100000
set_option autoImplicit false
namespace Ev
open PySem PySem.Spec PyProof.Rows L2
mutual
def onlyN : NestedKey → Bool
  | .num _ => true
  | .tup ks => onlyNs ks
  | _ => false
def onlyNs : List NestedKey → Bool
  | [] => true
  | k :: ks => onlyN k && onlyNs ks
end
/-- the key at an address -/
structure IsK (h : Heap) (k : NestedKey) (a : Addr) : Prop where
  is : NestedIs h k (.ref a)
  dp : k.depth ≤ 8
  on : onlyN k = true
section
variable {P : Program} {w : World} {A : Around} {E : Value → Shared → Prop} {s : Shared}
theorem IsK.hk {h : Heap} {k : NestedKey} {a : Addr} (x : IsK h k a) : (nestedKind P w).is h k a := ⟨x.is, x.dp⟩
theorem IsK.at {h h' : Heap} {k : NestedKey} {a : Addr} (x : IsK h k a) (hk : ∀ b o vs n, h.get? b = some o → o.data = .seq vs n → h'.get? b = some o) : IsK h' k a := ⟨NestedIs.at hk k _ x.is, x.dp, x.on⟩
theorem IsK.keep {h h' : Heap} {k : NestedKey} {a : Addr} (x : IsK h k a) (hk : ∀ b o, h.get? b = some o → h'.get? b = some o) : IsK h' k a := x.at fun b o _ _ e _ => hk b o e
theorem IsK.same {h h' : Heap} {k : NestedKey} {a c : Addr} {o : Obj} {es : Array (Int × Value)} {ep : Nat} {t : SetTable} (x : IsK h k c) (ho : h.get? a = some o) (hd : o.data = .set es ep t) (hs : Heap.SameBut a h h') : IsK h' k c :=
  x.at fun b ob vs n hb hc => by
    refine (hs.2 b fun e => ?_).trans hb
    subst e
    rw [ho] at hb
    cases hb
    rw [hd] at hc
    cases hc
theorem IsK.inj {h : Heap} {k k' : NestedKey} {a : Addr} (x : IsK h k a) (y : IsK h k' a) : k = k' := NestedIs.inj _ _ _ x.is y.is
/-- what is asked of a stored tuple, n levels down -/
def AskF (P : Program) (w : World) (f : Nat → Value → Sem Bool) (b : Bool) (n : Nat) (s : Shared) (v : Value) : Prop := ∀ (A : Around) (E : Value → Shared → Prop) (Q : Bool → Shared → Prop), Q b s → wpAny (model P w) A (f n v) Q E s
theorem ask_of (f : Nat → Value → Sem Bool) (b : Bool) (h0 : ∀ n i t, f n (.int i t) = pure b) (h1 : ∀ n c, f n (.bool c) = pure b)
    (ht : ∀ (n : Nat) (s : Shared) (a : Addr) (o : Obj) (vs : Array Value) (m : Nat), s.heap.get? a = some o → o.cls = .type "tuple" → o.data = .seq vs m → (∀ v ∈ vs.toList, AskF P w f b n s v) → AskF P w f b (n + 1) s (.ref a)) :
    ∀ (n : Nat) (s : Shared), (∀ (k : NestedKey) (v : Value), NestedIs s.heap k v → k.depth ≤ n → onlyN k = true → AskF P w f b n s v) ∧ ∀ (ks : List NestedKey) (vs : List Value), NestedAll s.heap ks vs → NestedKey.depthAll ks ≤ n → onlyNs ks = true → ∀ v ∈ vs, AskF P w f b n s v := by
  intro n
  induction n with
  | zero =>
    intro s
    have one : ∀ (k : NestedKey) (v : Value), NestedIs s.heap k v → k.depth ≤ 0 → onlyN k = true → AskF P w f b 0 s v := fun k v x hd ho => by
      cases x with
      | none => cases ho
      | bool e => intro A E Q q; rw [h1]; exact wpAny_pure q
      | int i t => intro A E Q q; rw [h0]; exact wpAny_pure q
      | text x t => cases ho
      | tup h1 h2 h3 h4 => simp only [NestedKey.depth] at hd; omega
    refine ⟨one, fun ks => ?_⟩
    induction ks with
    | nil => intro vs x _ _ v hv; cases x; cases hv
    | cons k ks ih =>
      intro vs x hd ho v hv
      cases x with
      | cons x1 x2 =>
        simp only [NestedKey.depthAll] at hd
        rw [onlyNs, Bool.and_eq_true] at ho
        rcases List.mem_cons.mp hv with e | hv
        · subst e; exact one k _ x1 (by omega) ho.1
        · exact ih _ x2 (by omega) ho.2 v hv
  | succ n ihn =>
    intro s
    have one : ∀ (k : NestedKey) (v : Value), NestedIs s.heap k v → k.depth ≤ n + 1 → onlyN k = true → AskF P w f b (n + 1) s v := fun k v x hd ho => by
      cases x with
      | none => cases ho
      | bool e => intro A E Q q; rw [h1]; exact wpAny_pure q
      | int i t => intro A E Q q; rw [h0]; exact wpAny_pure q
      | text x t => cases ho
      | tup e1 e2 e3 e4 =>
        simp only [NestedKey.depth] at hd
        exact ht n s _ _ _ _ e1 e2 e3 ((ihn s).2 _ _ e4 (by omega) (by rw [onlyN] at ho; exact ho))
    refine ⟨one, fun ks => ?_⟩
    induction ks with
    | nil => intro vs x _ _ v hv; cases x; cases hv
    | cons k ks ih =>
      intro vs x hd ho v hv
      cases x with
      | cons x1 x2 =>
        simp only [NestedKey.depthAll] at hd
        rw [onlyNs, Bool.and_eq_true] at ho
        rcases List.mem_cons.mp hv with e | hv
        · subst e; exact one k _ x1 (by omega) ho.1
        · exact ih _ x2 (by omega) ho.2 v hv
theorem ofA_key {k : NestedKey} {a : Addr} {Q : Bool → Shared → Prop} (x : IsK s.heap k a) (h : Q false s) : wpAny (model P w) A (ofAClassStatement 8 (.ref a)) Q E s := by
  refine ((ask_of (P := P) (w := w) ofAClassStatement false (fun n i t => by cases n <;> rfl) (fun n c => by cases n <;> rfl) (fun n s a o vs m ho hc hd ih A E Q q => ?_) 8 s).1 k _ x.is x.dp x.on) A E Q h
  have hT : s.TypeIs (.ref a) "tuple" := ⟨o, ho, hc⟩
  unfold ofAClassStatement
  refine wpAny_bind (wpAny_typeOf hT ?_)
  dsimp only
  have e : (("tuple" : String) == "tuple") = true := by decide
  simp only [e, if_true, Bool.not_true, Bool.false_eq_true, if_false]
  try refine wpAny_bind (wpAny_pure ?_)
  try simp only [Bool.not_true, Bool.false_eq_true, if_false]
  show wpAny _ _ (seqItems? (.ref a) >>= _) _ _ s
  refine wpAny_bind (wpAny_seqItems ho hd ?_)
  dsimp only
  refine wpAny_bind ?_
  show wpAny _ _ (forIn vs _ _) _ _ s
  rw [← Array.forIn_toList]
  refine wpAny_forIn_list _ (fun rest r s' => r.1 = none ∧ s' = s ∧ ∀ v ∈ rest, AskF P w ofAClassStatement false n s v) _ ?_ ?_ _ _ ⟨rfl, rfl, ih⟩
  · rintro v rest r s' ⟨hr, rfl, hall⟩
    refine wpAny_bind (hall v List.mem_cons_self _ _ _ ?_)
    simp only [Bool.false_eq_true, if_false]
    exact wpAny_pure ⟨rfl, rfl, fun u hu' => hall u (List.mem_cons_of_mem _ hu')⟩
  · rintro ⟨r1, r2⟩ s' ⟨hr, rfl, _⟩
    simp only at hr
    subst hr
    exact wpAny_pure q
theorem hashBy_key {k : NestedKey} {a : Addr} {Q : Bool → Shared → Prop} (x : IsK s.heap k a) (h : Q true s) : wpAny (model P w) A (hashByValue 8 (.ref a)) Q E s := by
  refine ((ask_of (P := P) (w := w) hashByValue true (fun n i t => by cases n <;> rfl) (fun n c => by cases n <;> rfl) (fun n s a o vs m ho hc hd ih A E Q q => ?_) 8 s).1 k _ x.is x.dp x.on) A E Q h
  have hT : s.TypeIs (.ref a) "tuple" := ⟨o, ho, hc⟩
  unfold hashByValue
  refine wpAny_bind (wpAny_specialOf hT PySem.F.slot_tuple_hash.lookup ?_)
  show wpAny _ _ (seqItems? (.ref a) >>= _) _ _ s
  refine wpAny_bind (wpAny_seqItems ho hd ?_)
  refine wpAny_bind ?_
  show wpAny _ _ (forIn vs _ _) _ _ s
  rw [← Array.forIn_toList]
  refine wpAny_forIn_list _ (fun rest r s' => r.1 = none ∧ s' = s ∧ ∀ v ∈ rest, AskF P w hashByValue true n s v) _ ?_ ?_ _ _ ⟨rfl, rfl, ih⟩
  · rintro v rest r s' ⟨hr, rfl, hall⟩
    refine wpAny_bind (hall v List.mem_cons_self _ _ _ ?_)
    simp only [Bool.not_true, Bool.false_eq_true, if_false]
    exact wpAny_pure ⟨rfl, rfl, fun u hu' => hall u (List.mem_cons_of_mem _ hu')⟩
  · rintro ⟨r1, r2⟩ s' ⟨hr, rfl, _⟩
    simp only at hr
    subst hr
    exact wpAny_pure q
/-- a search among such keys shows nothing -/
theorem seen_key {k : NestedKey} {a : Addr} {Q : Bool → Shared → Prop} (x : IsK s.heap k a) {ys : List Value} (hy : ∀ y ∈ ys, ∃ k' c, y = Value.ref c ∧ IsK s.heap k' c) (h : Q false s) : wpAny (model P w) A (searchCouldBeSeen (.ref a) ys) Q E s := by
  unfold searchCouldBeSeen
  refine wpAny_bind ?_
  refine wpAny_forIn_list _ (fun rest r s' => r.1 = none ∧ s' = s ∧ ∀ y ∈ rest, ∃ k' c, y = Value.ref c ∧ IsK s.heap k' c) _ ?_ ?_ _ _ ⟨rfl, rfl, hy⟩
  · rintro v rest r s' ⟨hr, rfl, hall⟩
    obtain ⟨k', c, rfl, hc⟩ := hall v List.mem_cons_self
    have rest' : ∀ y ∈ rest, ∃ k' c, y = Value.ref c ∧ IsK s'.heap k' c := fun u hu' => hall u (List.mem_cons_of_mem _ hu')
    dsimp only
    by_cases hv : (a == c || (carriedByValue (.ref a) && carriedByValue (.ref c))) = true
    · exact wp_if_pos hv (wpAny_pure ⟨rfl, rfl, rest'⟩)
    · refine wp_if_neg hv ?_
      refine wpAny_bind ((nestedKind P w).quiet x.hk ?_)
      simp only [Bool.not_true, Bool.false_eq_true, if_false]
      refine wpAny_bind ((nestedKind P w).quiet hc.hk ?_)
      simp only [Bool.not_true, Bool.false_eq_true, if_false]
      refine wpAny_bind (ofA_key x ?_)
      simp only [Bool.false_eq_true, if_false]
      refine wpAny_bind (ofA_key hc ?_)
      simp only [Bool.false_eq_true, if_false]
      exact wpAny_pure ⟨rfl, rfl, rest'⟩
  · rintro ⟨r1, r2⟩ s' ⟨hr, rfl, _⟩
    simp only at hr
    subst hr
    exact wpAny_pure h
end
end Ev

set_option Elab.async false
set_option linter.all false
set_option maxRecDepth 100000
set_option autoImplicit false
namespace Ev
open PySem PySem.Spec PyProof.Rows L2
abbrev KL := List (Addr × NestedKey)
def rowK (w : World) (p : Addr × NestedKey) : Int × Value := (p.2.hash w, .ref p.1)
/-- where the search for the hash h stands at its c-th step -/
abbrev prb (m : Nat) (h : Int) (c : Nat) : SetTable.Probe := nth m (runAt m (SetTable.bits h % (m + 1)) (SetTable.bits h)) c
theorem prb_add (m : Nat) (h : Int) (c q : Nat) : nth m (prb m h c) q = prb m h (c + q) := (nth_add m c _ q).symm
theorem nth_dummy (m : Nat) : ∀ (n : Nat) (p : SetTable.Probe), p.dummy = none → (nth m p n).dummy = none
  | 0, _, h => h
  | n + 1, p, h => nth_dummy m n (adv m p) (by unfold adv; split <;> exact h)
/-- the set at a: its keys in the table's order -/
structure SetK (w : World) (h : Heap) (a : Addr) (L : KL) (es : Array (Int × Value)) (ep : Nat) (t : SetTable) : Prop where
  ob : ∃ o, h.get? a = some o ∧ o.ExactSet ∧ o.data = .set es ep t
  rows : es.toList = L.map (rowK w)
  tab : TabOk t (L.map fun p => p.2.hash w)
  nd : (L.map (·.2)).Nodup
  key : ∀ p ∈ L, IsK h p.2 p.1
  plain : t.plain = true
  led : w.params.followText "set-order" = true ∨ t.led = true
  room : L.length * 5 < t.mask * 3
  few : L.length < 64
section
variable {P : Program} {w : World} {A : Around} {E : Value → Shared → Prop} {s : Shared} {h : Heap} {a : Addr} {L : KL} {es : Array (Int × Value)} {ep : Nat} {t : SetTable}
theorem rows_len (hr : es.toList = L.map (rowK w)) : es.size = L.length := by
  rw [← Array.length_toList, hr, List.length_map]
theorem rows_at (hr : es.toList = L.map (rowK w)) {i : Nat} {p : Addr × NestedKey} (hp : L[i]? = some p) : es[i]? = some (rowK w p) := by
  rw [← Array.getElem?_toList, hr, List.getElem?_map, hp]
  rfl
theorem fits_of (hs : t.place.size = es.size) (hd : t.dummies = #[]) (hm : es.size ≤ t.mask) : t.fits es.size = true := by
  unfold SetTable.fits SetTable.fill
  rw [hd, Bool.and_eq_true, beq_iff_eq, decide_eq_true_eq]
  exact ⟨hs, by show t.place.size + 0 ≤ t.mask; omega⟩
theorem SetK.place (R : SetK w h a L es ep t) : t.place.size = L.length := by
  have := R.tab.sz
  rw [List.length_map] at this
  exact this
theorem SetK.fits (R : SetK w h a L es ep t) : t.fits es.size = true := by
  have h1 := rows_len R.rows
  have h2 := R.place
  have h3 := R.room
  exact fits_of (by omega) R.tab.dm (by omega)
theorem SetK.gw (R : SetK w h a L es ep t) : ¬ t.gaveWay = true := by
  unfold SetTable.gaveWay
  rw [mask_odd R.tab.mok]
  decide
/-- from the c-th step on -/
theorem srch_from (R : SetK w s.heap a L es ep t) {x : Addr} {k : NestedKey} (hx : IsK s.heap k x) (hu : A.units + 8 < cLine) {K : Nat} (hKf : K < 10 * SetTable.turns t.mask)
    (hK : way t.mask (k.hash w) K ∉ t.place.toList) (hKb : ∀ c, c < K → way t.mask (k.hash w) c ∈ t.place.toList) {Q : SetFound → Shared → Prop}
    (hin : k ∈ L.map (·.2) → Q (.there none) s) (hout : k ∉ L.map (·.2) → Q (.free (way t.mask (k.hash w) K) false) s) :
    ∀ (f c : Nat) (stand : Option SetTable.Probe), stand.getD (t.probeStart (k.hash w)) = prb t.mask (k.hash w) c → c ≤ K → K - c < f →
      (∀ (i : Nat) p, L[i]? = some p → p.2 = k → ∃ c', c ≤ c' ∧ c' < K ∧ t.place.toList[i]? = some (way t.mask (k.hash w) c')) →
      wpAny (model P w) A (setSearchFrom a (.ref x) (k.hash w) true f stand) Q E s
  | 0, c, stand, _, _, hf, _ => absurd hf (Nat.not_lt_zero _)
  | f + 1, c, stand, hst, hc, hf, hre => by
    obtain ⟨o, ho, hex, hd⟩ := R.ob
    have hpl := R.place
    rw [setSearchFrom_succ]
    refine wpAny_bind (wpAny_setState_of ho hd R.fits ?_)
    dsimp only
    refine wp_if_neg R.gw ?_
    try refine wpAny_bind (wpAny_pure ?_)
    have e1 : ∀ q, (nth t.mask (prb t.mask (k.hash w) c) q).j = way t.mask (k.hash w) (c + q) := fun q => congrArg SetTable.Probe.j (prb_add _ _ _ _)
    have hashAt : ∀ (i : Nat) p, L[i]? = some p → (es[i]?.map (·.1)).getD 0 = p.2.hash w := fun i p hp => by
      rw [rows_at R.rows hp]
      rfl
    have spec := go_spec t R.tab.ris R.tab.dm (fun i => (es[i]?.map (·.1)).getD 0) (k.hash w) (10 * SetTable.turns t.mask) (K - c) _ (nth_dummy t.mask c _ rfl) (by omega)
      (fun q hq => by rw [e1]; exact hKb (c + q) (by omega)) (by rw [e1, show c + (K - c) = K by omega]; exact hK)
    -- an entry with this key isn't passed over
    have notyet : ∀ (i0 : Nat) p0 (c' : Nat), L[i0]? = some p0 → p0.2 = k → (es[i0]?.map (·.1)).getD 0 = k.hash w := fun i0 p0 _ h0 hk0 => (hashAt i0 p0 h0).trans (by rw [hk0])
    rcases spec with ⟨q, i, hq, hi, hh, hno, hpr⟩ | ⟨hno, hpr⟩
    · -- a candidate
      have hpr' : t.probe (fun i => (es[i]?.map (·.1)).getD 0) (k.hash w) (stand.getD (t.probeStart (k.hash w))) = some (.candidate (way t.mask (k.hash w) (c + q)) i (prb t.mask (k.hash w) (c + (q + 1)))) := by
        rw [hst, ← e1, ← prb_add]
        exact hpr
      rw [hpr']
      dsimp only
      rw [e1] at hi
      have hil : i < L.length := by
        have h1 := (List.getElem?_eq_some_iff.mp hi).1
        rw [Array.length_toList] at h1
        omega
      obtain ⟨p, hp⟩ : ∃ p, L[i]? = some p := ⟨_, List.getElem?_eq_getElem hil⟩
      have hmem : p ∈ L := List.mem_of_getElem? hp
      have hent := rows_at R.rows hp
      have hsl : t.slot (way t.mask (k.hash w) (c + q)) = .live i := slot_live R.tab.ris hi
      have rest : wpAny (model P w) A (searchRest a (.ref x) (k.hash w) true f es t (way t.mask (k.hash w) (c + q)) i (prb t.mask (k.hash w) (c + (q + 1)))) Q E s := by
        unfold searchRest
        rw [hent]
        dsimp only [rowK]
        refine wpAny_bind (wpAny_holding ((nestedKind P w).eqBool hu (R.key p hmem).hk hx.hk ?_))
        refine wpAny_bind (wpAny_setState_of ho hd R.fits ?_)
        dsimp only
        by_cases hkk : p.2 = k
        · refine wp_if_pos (by simp [hkk]) (wpAny_pure (hin (List.mem_map.mpr ⟨p, hmem, hkk⟩)))
        · refine wp_if_neg (by simp [hkk]) ?_
          try refine wpAny_bind (wpAny_pure ?_)
          rw [sameMem]
          dsimp only
          simp only [if_true, hsl, hent, rowK]
          refine wpAny_bind (wpAny_isSame_ref_self (wpAny_bind (wpAny_pure ?_)))
          simp only [if_true]
          refine wp_if_neg (by simp [hkk]) ?_
          refine srch_from R hx hu hKf hK hKb hin hout f (c + (q + 1)) _ rfl (by omega) (by omega) fun i0 p0 h0 hk0 => ?_
          obtain ⟨c', a1, a2, a3⟩ := hre i0 p0 h0 hk0
          refine ⟨c', ?_, a2, a3⟩
          rcases Nat.lt_trichotomy c' (c + q) with z | z | z
          · exact absurd (notyet i0 p0 c' h0 hk0) (hno (c' - c) i0 (by omega) (by rw [e1, show c + (c' - c) = c' by omega]; exact a3))
          · exfalso
            rw [z] at a3
            have s0 := slot_live R.tab.ris a3
            rw [hsl] at s0
            injection s0 with s0
            rw [← s0, hp] at h0
            cases h0
            exact hkk hk0
          · omega
      by_cases hl : t.led = true
      · refine wp_if_neg (by simp [hl]) ?_
        try refine wpAny_bind (wpAny_pure ?_)
        exact rest
      · refine wp_if_pos (by simp [hl]) ?_
        refine wpAny_bind (seen_key hx (fun y hy => ?_) ?_)
        · obtain ⟨e, he, ee⟩ := List.mem_map.mp hy
          have he1 : e ∈ es ∧ e.1 = k.hash w := by simpa using he
          have he2 : e ∈ es.toList := by simpa using he1.1
          rw [R.rows] at he2
          obtain ⟨p2, hp2, e2⟩ := List.mem_map.mp he2
          exact ⟨p2.2, p2.1, by rw [← ee, ← e2]; rfl, R.key p2 hp2⟩
        · refine wp_if_neg (by decide) ?_
          try refine wpAny_bind (wpAny_pure ?_)
          exact rest
    · -- the empty slot
      have hpr' : t.probe (fun i => (es[i]?.map (·.1)).getD 0) (k.hash w) (stand.getD (t.probeStart (k.hash w))) = some (.empty (way t.mask (k.hash w) K) none) := by
        have e2 : way t.mask (k.hash w) K = (nth t.mask (prb t.mask (k.hash w) c) (K - c)).j := by rw [e1, show c + (K - c) = K by omega]
        rw [hst, e2]
        exact hpr
      rw [hpr']
      dsimp only
      refine wpAny_pure (hout fun hm => ?_)
      obtain ⟨p0, h0, hk0⟩ := List.mem_map.mp hm
      obtain ⟨i0, h00⟩ := List.mem_iff_getElem?.mp h0
      obtain ⟨c', a1, a2, a3⟩ := hre i0 p0 h00 hk0
      exact hno (c' - c) i0 (by omega) (by rw [e1, show c + (c' - c) = c' by omega]; exact a3) (notyet i0 p0 c' h00 hk0)
theorem srch (R : SetK w s.heap a L es ep t) {x : Addr} {k : NestedKey} (hx : IsK s.heap k x) (hu : A.units + 8 < cLine) {Q : SetFound → Shared → Prop} (hin : k ∈ L.map (·.2) → Q (.there none) s)
    (hout : ∀ K, k ∉ L.map (·.2) → way t.mask (k.hash w) K ∉ t.place.toList → (∀ c, c < K → way t.mask (k.hash w) c ∈ t.place.toList) → Q (.free (way t.mask (k.hash w) K) false) s) :
    wpAny (model P w) A (setSearch a (.ref x) (k.hash w) true) Q E s := by
  have hroom := R.room
  obtain ⟨K, hKf, hK, hKb⟩ := R.tab.first (by rw [List.length_map]; omega) (k.hash w)
  have hbig : 10 * SetTable.turns t.mask ≤ 1420 := by
    unfold SetTable.turns
    rcases R.tab.mok with e | e | e <;> omega
  unfold setSearch
  refine srch_from R hx hu hKf hK hKb hin (fun hn => hout K hn hK hKb) 100000 0 none rfl (Nat.zero_le _) (by omega) fun i p hp hk => ?_
  have hi : (L.map fun p => p.2.hash w)[i]? = some (k.hash w) := by rw [List.getElem?_map, hp, ← hk]; rfl
  have hil : i < t.place.toList.length := by
    have h1 := (List.getElem?_eq_some_iff.mp hp).1
    have h2 := R.place
    rw [Array.length_toList]
    omega
  have hj := List.getElem?_eq_getElem hil
  obtain ⟨c, hc, e⟩ := R.tab.before hK hi hj
  exact ⟨c, Nat.zero_le _, hc, by rw [hj, e]⟩
end
end Ev

set_option Elab.async false
set_option linter.all false
set_option maxRecDepth 100000
set_option autoImplicit false
namespace Ev
open PySem PySem.Spec PyProof.Rows L2
theorem range_filterMap {α : Type} (l : List α) : (List.range l.length).filterMap (fun i => l[i]?) = l := by
  have key : ∀ n, n ≤ l.length → (List.range n).filterMap (fun i => l[i]?) = l.take n := by
    intro n
    induction n with
    | zero => intro _; rfl
    | succ n ih =>
      intro hn
      rw [List.range_succ, List.filterMap_append, ih (by omega), List.take_add_one, List.getElem?_eq_getElem hn, List.filterMap_cons_some (List.getElem?_eq_getElem hn)]
      rfl
  rw [key l.length (Nat.le_refl _), List.take_length]
section
variable {P : Program} {w : World} {A : Around} {E : Value → Shared → Prop} {s : Shared} {h : Heap} {a : Addr} {L : KL} {es : Array (Int × Value)} {ep : Nat} {t : SetTable}
/-- the entries in another order -/
theorem reorder (order : List Nat) (hr : es.toList = L.map (rowK w)) (hp : order.Perm (List.range L.length)) :
    (order.filterMap fun i => es[i]?) = (order.filterMap fun i => L[i]?).map (rowK w) ∧ (order.filterMap fun i => L[i]?).Perm L ∧ ((order.filterMap fun i => L[i]?).map fun p => p.2.hash w) = order.map fun i => (es.map (·.1)).getD i 0 := by
  have key : ∀ l : List Nat, (∀ i ∈ l, i < L.length) → (l.filterMap fun i => es[i]?) = (l.filterMap fun i => L[i]?).map (rowK w) ∧ ((l.filterMap fun i => L[i]?).map fun p => p.2.hash w) = l.map fun i => (es.map (·.1)).getD i 0 := by
    intro l
    induction l with
    | nil => intro _; exact ⟨rfl, rfl⟩
    | cons i l ih =>
      intro hl
      obtain ⟨e1, e2⟩ := ih fun j hj => hl j (List.mem_cons_of_mem _ hj)
      have hli := hl i List.mem_cons_self
      have hi : L[i]? = some L[i] := List.getElem?_eq_getElem hli
      have hei := rows_at hr hi
      refine ⟨?_, ?_⟩
      · rw [List.filterMap_cons_some hei, List.filterMap_cons_some hi, e1, List.map_cons]
      · rw [List.filterMap_cons_some hi, List.map_cons, List.map_cons, e2]
        have e3 : (es.map (·.1))[i]? = some (L[i].2.hash w) := by rw [Array.getElem?_map, hei]; rfl
        have e4 : (es.map (·.1)).getD i 0 = L[i].2.hash w := by simp [Array.getD_eq_getD_getElem?, e3]
        rw [e4]
  obtain ⟨e1, e2⟩ := key order fun i hi => List.mem_range.mp (hp.mem_iff.mp hi)
  refine ⟨e1, ?_, e2⟩
  have := hp.filterMap (fun i => L[i]?)
  rw [range_filterMap] at this
  exact this
theorem relay {o : Obj} (ho : s.heap.get? a = some o) (hex : o.ExactSet) (hd : o.data = .set es ep t) (hr : es.toList = L.map (rowK w)) (hsz : t.place.size = es.size) (hdm : t.dummies = #[]) (hfl : es.size ≤ t.mask)
    (nd : (L.map (·.2)).Nodup) (hkey : ∀ p ∈ L, IsK s.heap p.2 p.1) (pl : t.plain = true) (ld : w.params.followText "set-order" = true ∨ t.led = true) (few : L.length < 64) {wanted M : Nat}
    (hw : SetTable.sizeAbove wanted - 1 = M) (hM : MaskOk M) (hw2 : SetTable.sizeAbove wanted ≤ 128) (hn : L.length * 5 < M * 3) {Q : Unit → Shared → Prop}
    (hQ : ∀ h' L' es' ep' t', Heap.SameBut a s.heap h' → SetK w h' a L' es' ep' t' → L'.Perm L → Q () { s with heap := h' }) : wpAny (model P w) A (setRelay a wanted) Q E s := by
  have hsl := rows_len hr
  obtain ⟨t', order, e, hp, T, em, el, ep', ed⟩ := relaid_ok t (hs := es.map (·.1)) (wanted := wanted) hw hM (by rw [Array.size_map, hsl]; omega)
  rw [Array.size_map, hsl] at hp
  obtain ⟨r1, r2, r3⟩ := reorder order.toList hr hp
  rw [← r3] at T
  generalize order.toList.filterMap (fun i => L[i]?) = L2 at r1 r2 r3 T
  have r1' : (order.filterMap (es[·]?)).toList = L2.map (rowK w) := by first | (rw [Array.toList_filterMap]; exact r1) | simpa using r1
  have hs2 := rows_len r1'
  have hl2 := r2.length_eq
  rw [setRelay_eq]
  refine wpAny_bind (wpAny_setState_of ho hd (fits_of hsz hdm hfl) ?_)
  dsimp only
  refine wp_if_neg (by rw [sizeLine_eq]; omega) ?_
  try refine wpAny_bind (wpAny_pure ?_)
  rw [e]
  dsimp only
  refine wpAny_bind ?_
  refine wp_if_neg (by rw [hs2, hl2, hsl]; simp) ?_
  try refine wpAny_bind (wpAny_pure ?_)
  refine wpAny_pure ?_
  dsimp only
  refine wpAny_storeSet_of ho hd ?_ (by rw [hs2, hl2, sizeLine_eq]; omega)
  have sb : Heap.SameBut a s.heap (s.heap.update a (Obj.putSet (order.filterMap (es[·]?)) t')) := Heap.SameBut.update ..
  refine hQ _ L2 (order.filterMap (es[·]?)) (ep + 1) t' sb ⟨⟨_, store_at ho hd, ⟨hex.1, hex.2.1, hex.2.2⟩, rfl⟩, r1', T, (r2.map (·.2)).nodup_iff.mpr nd, fun p hpm => (hkey p (r2.mem_iff.mp hpm)).same ho hd sb, by rw [ep']; exact pl, by rw [el]; exact ld, by rw [hl2, em]; exact hn, by omega⟩ r2
/-- adding -/
theorem add_key (R : SetK w s.heap a L es ep t) {x : Addr} {k : NestedKey} (hx : IsK s.heap k x) (hu : A.units + 8 < cLine) (hfew : L.length + 1 < 64) {Q : Bool → Shared → Prop}
    (hQ : ∀ c h' L' es' ep' t', Heap.SameBut a s.heap h' → SetK w h' a L' es' ep' t' → (k ∈ L.map (·.2) → L' = L) → (k ∉ L.map (·.2) → L'.Perm ((x, k) :: L)) → Q c { s with heap := h' }) :
    wpAny (model P w) A (setAddHashed a (.ref x) (k.hash w)) Q E s := by
  obtain ⟨o, ho, hex, hd⟩ := R.ob
  have hsl := rows_len R.rows
  have hroom := R.room
  unfold setAddHashed
  refine wpAny_holding ?_
  rw [show (100000 : Nat) = 99999 + 1 from rfl, setAddHashedIn_succ]
  refine wpAny_bind (wpAny_setState_of ho hd R.fits ?_)
  dsimp only
  refine wp_if_neg (by simp [byScan, Value.scannable]) ?_
  try refine wpAny_bind (wpAny_pure ?_)
  refine wpAny_bind (srch R hx hu (fun hm => ?_) fun K hm hK hb => ?_)
  · dsimp only
    exact wpAny_pure (hQ false s.heap L es ep t (Heap.SameBut.refl a s.heap) R (fun _ => rfl) fun z => absurd hm z)
  · dsimp only
    refine wpAny_bind (wpAny_setState_of ho hd R.fits ?_)
    dsimp only
    obtain ⟨q1, q2, q3, q4, q5, q6, q7, q8, q9⟩ := R.tab.put hK hb
    have hp1 : (t.put (way t.mask (k.hash w) K)).1.plain = true := by rw [q6]; exact R.plain
    generalize hpt : t.put (way t.mask (k.hash w) K) = pt at q1 q3 q4 q5 q6 q7 q8 q9 hp1 ⊢
    obtain ⟨t1, p⟩ := pt
    dsimp only at q1 q3 q4 q5 q6 q7 q8 q9 hp1 ⊢
    subst q1
    first
      | (refine wpAny_bind ?_; refine wp_if_pos hp1 ?_; refine hashBy_key hx ?_)
      | refine wp_if_pos hp1 (wpAny_bind (hashBy_key hx ?_))
    simp only [if_true]
    generalize hpp : SetTable.below t.place (way t.mask (k.hash w) K) = p at q2 q3 ⊢
    have pm : (L.take p ++ (x, k) :: L.drop p).Perm ((x, k) :: L) := put_perm L p (x, k)
    have hin : (SetTable.insertAt es p (k.hash w, Value.ref x)).toList = (L.take p ++ (x, k) :: L.drop p).map (rowK w) := by
      rw [SetTable.toList_insertAt, R.rows, List.map_append, List.map_cons, List.map_take, List.map_drop]
      rfl
    have hlen : (L.take p ++ (x, k) :: L.drop p).length = L.length + 1 := pm.length_eq
    have hhs : (L.take p ++ (x, k) :: L.drop p).map (fun p => p.2.hash w) = (L.map fun p => p.2.hash w).take p ++ k.hash w :: (L.map fun p => p.2.hash w).drop p := by
      rw [List.map_append, List.map_cons, List.map_take, List.map_drop]
    rw [← hhs] at q3
    have nd1 : ((L.take p ++ (x, k) :: L.drop p).map (·.2)).Nodup := (pm.map (·.2)).nodup_iff.mpr (by
      rw [List.map_cons]
      exact List.nodup_cons.mpr ⟨hm, R.nd⟩)
    have hes := rows_len hin
    generalize SetTable.insertAt es p (k.hash w, Value.ref x) = es1 at hin hes ⊢
    generalize L.take p ++ (x, k) :: L.drop p = L1 at pm hlen q3 nd1 hin hes
    refine wpAny_bind (wpAny_storeSet_of ho hd ?_ (by rw [hes, hlen, sizeLine_eq]; omega))
    have sb : Heap.SameBut a s.heap (s.heap.update a (Obj.putSet es1 t1)) := Heap.SameBut.update ..
    have ho1 := store_at (es' := es1) (t' := t1) ho hd
    generalize s.heap.update a (Obj.putSet es1 t1) = h1 at sb ho1 ⊢
    have key1 : ∀ p ∈ L1, IsK h1 p.2 p.1 := fun p hp => by
      rcases List.mem_cons.mp (pm.mem_iff.mp hp) with e | hp
      · rw [e]; exact hx.same ho hd sb
      · exact (R.key p hp).same ho hd sb
    have ld1 : w.params.followText "set-order" = true ∨ t1.led = true := by rw [q5]; exact R.led
    have hsz1 : t1.place.size = es1.size := by
      have h := q3.sz
      rw [List.length_map] at h
      omega
    by_cases hf : t1.tooFull = true
    · first
        | (refine wpAny_bind ?_; refine wp_if_pos (by simp [hf]) ?_)
        | (refine wp_if_pos (by simp [hf]) ?_; refine wpAny_bind ?_)
      have hfull : (L.length + 1) * 5 ≥ t1.mask * 3 := by
        have h := hf
        unfold SetTable.tooFull at h
        rw [decide_eq_true_eq, q9, List.length_map] at h
        exact h
      rw [hsl]
      have two : (t.mask = 7 ∧ L.length = 4) ∨ (t.mask = 31 ∧ L.length = 18) := by
        rw [q4] at hfull
        rcases R.tab.mok with e | e | e
        · left; exact ⟨e, by omega⟩
        · right; exact ⟨e, by omega⟩
        · omega
      have go : ∀ M, SetTable.sizeAbove (SetTable.grown (L.length + 1)) - 1 = M → MaskOk M → SetTable.sizeAbove (SetTable.grown (L.length + 1)) ≤ 128 → (L.length + 1) * 5 < M * 3 →
          wpAny (model P w) A (setRelay a (SetTable.grown (L.length + 1))) (fun _ s' => wpAny (model P w) A (pure true) Q E s') E { s with heap := h1 } := fun M g1 g2 g3 g4 => by
        refine relay (s := { s with heap := h1 }) ho1 ⟨hex.1, hex.2.1, hex.2.2⟩ rfl hin hsz1 q3.dm (by rw [hes, hlen, q4]; rcases two with ⟨e, e2⟩ | ⟨e, e2⟩ <;> omega) nd1 key1 hp1 ld1 (by omega) g1 g2 g3 (by rw [hlen]; exact g4) ?_
        intro h2 L2 es2 ep2 t2 sb2 R2 pm2
        exact wpAny_pure (hQ true h2 L2 es2 ep2 t2 (sb.trans sb2) R2 (fun z => absurd z hm) fun _ => pm2.trans pm)
      rcases two with ⟨_, e2⟩ | ⟨_, e2⟩
      · exact go 31 (by rw [e2, size_20]) (.inr (.inl rfl)) (by rw [e2, size_20]; decide) (by omega)
      · exact go 127 (by rw [e2, size_76]) (.inr (.inr rfl)) (by rw [e2, size_76]; decide) (by omega)
    · first
        | refine wp_if_neg (by simp [hf]) ?_
        | (refine wpAny_bind ?_; refine wp_if_neg (by simp [hf]) ?_; refine wpAny_pure ?_)
      refine wpAny_pure (hQ true h1 L1 es1 (ep + 1) t1 sb ⟨⟨_, ho1, ⟨hex.1, hex.2.1, hex.2.2⟩, rfl⟩, hin, q3, nd1, key1, hp1, ld1, ?_, by omega⟩ (fun z => absurd z hm) fun _ => pm)
      have h := hf
      unfold SetTable.tooFull at h
      rw [decide_eq_true_eq, q9, List.length_map] at h
      omega
end
end Ev

set_option Elab.async false
set_option linter.all false
set_option maxRecDepth 100000
set_option autoImplicit false
namespace Ev
open PySem PySem.Spec PyProof.Rows L2
theorem toks_inj {x y : D} (ha : PySem.W.alike x y = true) (h : PySem.W.keyToks x = PySem.W.keyToks y) : PyData.eqv x y = true := by
  cases e : PyData.eqv x y with
  | true => rfl
  | false =>
    exfalso
    have q := (PySem.W.toks_eqv x y ha).2 e [] [.inl 0]
    rw [h, PySem.W.lex_pre, PyProof.Rows.lex_irrefl] at q
    cases q
theorem lt_eqv {x y : D} (ha : PySem.W.alike x y = true) (h1 : PySem.W.dataLt x y = false) (h2 : PySem.W.dataLt y x = false) : PyData.eqv x y = true :=
  toks_inj ha (PyProof.Rows.lex_total _ _ h1 h2)
mutual
theorem eqv_nk : ∀ (x y : D), nkOk x = true → nkOk y = true → PyData.eqv x y = true → x = y
  | .int i, .int j, _, _, h => by
    rw [PyData.eqv] at h
    rw [of_decide_eq_true (show decide (i = j) = true by simpa using h)]
  | .tuple xs, .tuple ys, h1, h2, h => by
    rw [PyData.eqv] at h
    rw [eqv_nks xs ys h1 h2 h]
  | .int _, .tuple _, _, _, h => by simp [PyData.eqv] at h
  | .tuple _, .int _, _, _, h => by simp [PyData.eqv] at h
  | .none, _, h, _, _ => by simp [nkOk] at h
  | .bool _, _, h, _, _ => by simp [nkOk] at h
  | .str _, _, h, _, _ => by simp [nkOk] at h
  | .list _, _, h, _, _ => by simp [nkOk] at h
  | .dict _, _, h, _, _ => by simp [nkOk] at h
  | .int _, .none, _, h, _ => by simp [nkOk] at h
  | .int _, .bool _, _, h, _ => by simp [nkOk] at h
  | .int _, .str _, _, h, _ => by simp [nkOk] at h
  | .int _, .list _, _, h, _ => by simp [nkOk] at h
  | .int _, .dict _, _, h, _ => by simp [nkOk] at h
  | .tuple _, .none, _, h, _ => by simp [nkOk] at h
  | .tuple _, .bool _, _, h, _ => by simp [nkOk] at h
  | .tuple _, .str _, _, h, _ => by simp [nkOk] at h
  | .tuple _, .list _, _, h, _ => by simp [nkOk] at h
  | .tuple _, .dict _, _, h, _ => by simp [nkOk] at h
theorem eqv_nks : ∀ (xs ys : List D), nkAll xs = true → nkAll ys = true → PyData.eqvAll xs ys = true → xs = ys
  | [], [], _, _, _ => rfl
  | x :: xs, y :: ys, h1, h2, h => by
    rw [nkAll, Bool.and_eq_true] at h1 h2
    rw [PySem.W.eqv_all_cons, Bool.and_eq_true] at h
    rw [eqv_nk x y h1.1 h2.1 h.1, eqv_nks xs ys h1.2 h2.2 h.2]
  | [], _ :: _, _, _, h => by simp [PyData.eqvAll] at h
  | _ :: _, [], _, _, h => by simp [PyData.eqvAll] at h
end
mutual
theorem eqv_refl : ∀ x : D, nkOk x = true → PyData.eqv x x = true
  | .int i, _ => by simp [PyData.eqv]
  | .tuple xs, h => by rw [PyData.eqv]; exact eqv_refls xs h
  | .none, h => by simp [nkOk] at h
  | .bool _, h => by simp [nkOk] at h
  | .str _, h => by simp [nkOk] at h
  | .list _, h => by simp [nkOk] at h
  | .dict _, h => by simp [nkOk] at h
theorem eqv_refls : ∀ xs : List D, nkAll xs = true → PyData.eqvAll xs xs = true
  | [], _ => by simp [PyData.eqvAll]
  | x :: xs, h => by
    rw [nkAll, Bool.and_eq_true] at h
    rw [PySem.W.eqv_all_cons, eqv_refl x h.1, eqv_refls xs h.2]
    rfl
end
theorem dedD_mem {y : D} : ∀ {l : List D}, (∀ x ∈ l, nkOk x = true) → (y ∈ dedD l ↔ y ∈ l)
  | [], _ => Iff.rfl
  | x :: xs, h => by
    have hx := h x List.mem_cons_self
    have ih := dedD_mem (y := y) (l := xs) fun z hz => h z (List.mem_cons_of_mem _ hz)
    unfold dedD
    split
    · rename_i hc
      obtain ⟨z, hz, e⟩ := List.any_eq_true.mp hc
      have exz := eqv_nk x z hx (h z (List.mem_cons_of_mem _ hz)) e
      rw [ih, List.mem_cons]
      exact ⟨.inr, fun q => q.elim (fun e2 => by rw [e2, exz]; exact hz) id⟩
    · rw [List.mem_cons, List.mem_cons, ih]
theorem dedD_nodup : ∀ {l : List D}, (∀ x ∈ l, nkOk x = true) → (dedD l).Nodup
  | [], _ => .nil
  | x :: xs, h => by
    have hx := h x List.mem_cons_self
    have hxs : ∀ z ∈ xs, nkOk z = true := fun z hz => h z (List.mem_cons_of_mem _ hz)
    unfold dedD
    split
    · exact dedD_nodup hxs
    · rename_i hc
      refine List.nodup_cons.mpr ⟨fun hm => hc ?_, dedD_nodup hxs⟩
      exact List.any_eq_true.mpr ⟨x, (dedD_mem hxs).mp hm, eqv_refl x hx⟩
/-- what is sorted and has the same items without repetition is sortD of dedD -/
theorem sorted_ded {l m : List D} (hn : ∀ x ∈ l, nkOk x = true) (ha : ∀ x ∈ l, ∀ y ∈ l, PySem.W.alike x y = true) (hs : m.Pairwise (fun a c => leS a c = true)) (hm : ∀ x, x ∈ m ↔ x ∈ l) (nd : m.Nodup) : m = sortD (dedD l) := by
  refine List.Perm.eq_of_pairwise (le := fun a c => leS a c = true) (fun a c h1 h2 q1 q2 => ?_) hs (sortD_sorted _) ?_
  · have h1 := (hm a).mp h1
    have h2 := (dedD_mem hn).mp ((sortD_perm _).mem_iff.mp h2)
    rw [leS_eq, Bool.not_eq_true'] at q1 q2
    exact eqv_nk a c (hn a h1) (hn c h2) (lt_eqv (ha a h1 c h2) q2 q1)
  · refine List.Perm.trans ?_ (sortD_perm _).symm
    exact (List.perm_ext_iff_of_nodup nd (dedD_nodup hn)).mpr fun x => (hm x).trans (dedD_mem hn).symm
mutual
def keyOf : D → NestedKey
  | .int i => .num i
  | .tuple xs => .tup (keysOf xs)
  | _ => .none
def keysOf : List D → List NestedKey
  | [] => []
  | x :: xs => keyOf x :: keysOf xs
end
mutual
theorem keyOf_inj : ∀ (x y : D), nkOk x = true → nkOk y = true → keyOf x = keyOf y → x = y
  | .int i, .int j, _, _, h => by simp only [keyOf, NestedKey.num.injEq] at h; rw [h]
  | .tuple xs, .tuple ys, h1, h2, h => by
    simp only [keyOf, NestedKey.tup.injEq] at h
    rw [keysOf_inj xs ys h1 h2 h]
  | .int _, .tuple _, _, _, h => by simp [keyOf] at h
  | .tuple _, .int _, _, _, h => by simp [keyOf] at h
  | .none, _, h, _, _ => by simp [nkOk] at h
  | .bool _, _, h, _, _ => by simp [nkOk] at h
  | .str _, _, h, _, _ => by simp [nkOk] at h
  | .list _, _, h, _, _ => by simp [nkOk] at h
  | .dict _, _, h, _, _ => by simp [nkOk] at h
  | .int _, .none, _, h, _ => by simp [nkOk] at h
  | .int _, .bool _, _, h, _ => by simp [nkOk] at h
  | .int _, .str _, _, h, _ => by simp [nkOk] at h
  | .int _, .list _, _, h, _ => by simp [nkOk] at h
  | .int _, .dict _, _, h, _ => by simp [nkOk] at h
  | .tuple _, .none, _, h, _ => by simp [nkOk] at h
  | .tuple _, .bool _, _, h, _ => by simp [nkOk] at h
  | .tuple _, .str _, _, h, _ => by simp [nkOk] at h
  | .tuple _, .list _, _, h, _ => by simp [nkOk] at h
  | .tuple _, .dict _, _, h, _ => by simp [nkOk] at h
theorem keysOf_inj : ∀ (xs ys : List D), nkAll xs = true → nkAll ys = true → keysOf xs = keysOf ys → xs = ys
  | [], [], _, _, _ => rfl
  | x :: xs, y :: ys, h1, h2, h => by
    rw [nkAll, Bool.and_eq_true] at h1 h2
    simp only [keysOf, List.cons.injEq] at h
    rw [keyOf_inj x y h1.1 h2.1 h.1, keysOf_inj xs ys h1.2 h2.2 h.2]
  | [], _ :: _, _, _, h => by simp [keysOf] at h
  | _ :: _, [], _, _, h => by simp [keysOf] at h
end
mutual
theorem keyOf_only : ∀ x : D, nkOk x = true → onlyN (keyOf x) = true ∧ (keyOf x).depth = x.depth
  | .int _, _ => by simp [keyOf, onlyN, NestedKey.depth, PyData.depth]
  | .tuple xs, h => by
    obtain ⟨h1, h2⟩ := keysOf_only xs h
    refine ⟨by simpa [keyOf, onlyN] using h1, ?_⟩
    simp only [keyOf, NestedKey.depth, PyData.depth, h2]
  | .none, h => by simp [nkOk] at h
  | .bool _, h => by simp [nkOk] at h
  | .str _, h => by simp [nkOk] at h
  | .list _, h => by simp [nkOk] at h
  | .dict _, h => by simp [nkOk] at h
theorem keysOf_only : ∀ xs : List D, nkAll xs = true → onlyNs (keysOf xs) = true ∧ NestedKey.depthAll (keysOf xs) = PyData.depthAll xs
  | [], _ => by simp [keysOf, onlyNs, NestedKey.depthAll, PyData.depthAll]
  | x :: xs, h => by
    rw [nkAll, Bool.and_eq_true] at h
    obtain ⟨a1, a2⟩ := keyOf_only x h.1
    obtain ⟨b1, b2⟩ := keysOf_only xs h.2
    exact ⟨by rw [keysOf, onlyNs, a1, b1]; rfl, by simp only [keysOf, NestedKey.depthAll, PyData.depthAll, a2, b2]⟩
end
mutual
theorem keyOf_is {h : Heap} : ∀ (x : D) (v : Value) (as : List Addr), nkOk x = true → Reads h v x as → NestedIs h (keyOf x) v
  | .int i, _, _, _, r => by cases r; rw [keyOf]; exact .int _ _
  | .tuple xs, _, _, hn, r => by
    cases r with
    | tuple h1 h2 h3 h4 => rw [keyOf]; exact .tup h1 h2 h3 (keysOf_is xs _ _ hn h4)
  | .none, _, _, hn, _ => by simp [nkOk] at hn
  | .bool _, _, _, hn, _ => by simp [nkOk] at hn
  | .str _, _, _, hn, _ => by simp [nkOk] at hn
  | .list _, _, _, hn, _ => by simp [nkOk] at hn
  | .dict _, _, _, hn, _ => by simp [nkOk] at hn
theorem keysOf_is {h : Heap} : ∀ (xs : List D) (vs : List Value) (as : List Addr), nkAll xs = true → ReadsAll h vs xs as → NestedAll h (keysOf xs) vs
  | [], _, _, _, r => by cases r; rw [keysOf]; exact .nil
  | x :: xs, _, _, hn, r => by
    rw [nkAll, Bool.and_eq_true] at hn
    cases r with
    | cons h1 h2 => rw [keysOf]; exact .cons (keyOf_is x _ _ hn.1 h1) (keysOf_is xs _ _ hn.2 h2)
end
end Ev

set_option Elab.async false
set_option linter.all false
set_option maxRecDepth 100000
set_option autoImplicit false
namespace Ev
open PySem PySem.Spec PyProof.Rows L2
/-- what the set has got from the first i items -/
structure GotK (ks : KL) (i : Nat) (L : KL) : Prop where
  sub : ∀ p ∈ L, p ∈ ks.take i
  all : ∀ p ∈ ks.take i, p.2 ∈ L.map (·.2)
  len : L.length ≤ i
theorem GotK.step {ks L L' : KL} {i : Nat} {x : Addr × NestedKey} (g : GotK ks i L) (h : ks[i]? = some x) (c1 : x.2 ∈ L.map (·.2) → L' = L) (c2 : x.2 ∉ L.map (·.2) → L'.Perm (x :: L)) : GotK ks (i + 1) L' := by
  have et : ks.take (i + 1) = ks.take i ++ [x] := by rw [List.take_add_one, h]; rfl
  rcases Classical.em (x.2 ∈ L.map (·.2)) with c | c
  · rw [c1 c]
    refine ⟨fun p hp => by rw [et]; exact List.mem_append_left _ (g.sub p hp), fun p hp => ?_, Nat.le_succ_of_le g.len⟩
    rw [et] at hp
    rcases List.mem_append.mp hp with z | z
    · exact g.all p z
    · rw [List.mem_singleton.mp z]; exact c
  · have pm := c2 c
    refine ⟨fun p hp => ?_, fun p hp => ?_, by rw [pm.length_eq]; exact Nat.succ_le_succ g.len⟩
    · rw [et]
      rcases List.mem_cons.mp (pm.mem_iff.mp hp) with e | z
      · rw [e]; exact List.mem_append_right _ (List.mem_singleton.mpr rfl)
      · exact List.mem_append_left _ (g.sub p z)
    · rw [(pm.map (·.2)).mem_iff, List.map_cons]
      rw [et] at hp
      rcases List.mem_append.mp hp with z | z
      · exact List.mem_cons_of_mem _ (g.all p z)
      · rw [List.mem_singleton.mp z]; exact List.mem_cons_self
section
variable {P : Program} {w : World} {A : Around} {E : Value → Shared → Prop} {s : Shared}
theorem SetK.keep {h h' : Heap} {a : Addr} {L : KL} {es : Array (Int × Value)} {ep : Nat} {t : SetTable} (R : SetK w h a L es ep t) (ha : ∀ o, h.get? a = some o → h'.get? a = some o) (ht : ∀ p ∈ L, IsK h' p.2 p.1) : SetK w h' a L es ep t := by
  obtain ⟨o, ho, r⟩ := R.ob
  exact ⟨⟨o, ha o ho, r⟩, R.rows, R.tab, R.nd, ht, R.plain, R.led, R.room, R.few⟩
theorem setK_new {h : Heap} {a : Addr} (ho : h.get? a = some { cls := .type "set", dict := none, data := .set #[] 0 (.fresh 0 0 (!w.params.followText "set-order")) }) : SetK w h a [] #[] 0 (.fresh 0 0 (!w.params.followText "set-order")) where
  ob := ⟨_, ho, ⟨rfl, rfl, rfl⟩, rfl⟩
  rows := rfl
  tab := ⟨List.Pairwise.nil, rfl, rfl, .inl rfl, fun x hx => (by cases hx), fun i h j hi => (by simp at hi)⟩
  nd := List.nodup_nil
  key := fun p hp => (by cases hp)
  plain := rfl
  led := by
    show _ ∨ (!w.params.followText "set-order") = true
    cases w.params.followText "set-order"
    · exact .inr rfl
    · exact .inl rfl
  room := by
    show 0 * 5 < 7 * 3
    decide
  few := by
    show 0 < 64
    decide
/-- the loop that adds -/
theorem upd_keys {I : Addr} {fp wr : List Addr} {G : Array GenState → Array GenState → Prop} {n : Nat} {Pv : Nat → Value → Prop} {St : Nat → Shared → Prop} {R : Result → Shared → Prop}
    (W : WalksS P w A.in1 I fp wr G n Pv St) (S : Addr) (hSf : S ∉ fp) (ks : KL) (hn : n = ks.length) (hfew : ks.length < 64) (hval : ∀ i v, Pv i v → ∃ p, ks[i]? = some p ∧ v = .ref p.1)
    (h0 : Heap) (hk : ∀ p ∈ ks, IsK h0 p.2 p.1) (hS0 : h0.get? S = none) (hw0 : ∀ b ∈ wr, h0.get? b = none) (hu : A.in1.units + 8 < cLine) :
    ∀ (k i : Nat) (s : Shared), n - i = k → i ≤ n → St i s → (∀ b o, h0.get? b = some o → s.heap.get? b = some o) → (∃ L es ep t, SetK w s.heap S L es ep t ∧ GotK ks i L) →
      (∀ s' L es ep t, Moved (S :: wr) G s s' → SetK w s'.heap S L es ep t → GotK ks n L → (∀ b o, h0.get? b = some o → s'.heap.get? b = some o) → R (.ok (.ret .none)) s') →
      codeAny (model P w) A (.builtin "set.update.loop" ⟨[.ref S, .ref I], []⟩) R s := by
  have hSw : S ∉ wr := fun h => hSf (W.sub _ h)
  have hsub : ∀ b ∈ wr, b ∈ S :: wr := fun b hb => List.mem_cons_of_mem _ hb
  have keepM : ∀ {s s' : Shared}, Moved wr G s s' → (∀ b o, h0.get? b = some o → s.heap.get? b = some o) → ∀ b o, h0.get? b = some o → s'.heap.get? b = some o := fun hm hkp b o e =>
    hm.heap b o (fun hb => by rw [hw0 b hb] at e; cases e) (hkp b o e)
  have sub : ∀ {i : Nat} {L : KL}, GotK ks i L → ∀ p ∈ L, p ∈ ks := fun g p hp => List.mem_of_mem_take (g.sub p hp)
  intro k
  induction k with
  | zero =>
    intro i s hk' hi hst hkp ⟨L, es, ep, t, hS, g⟩ hR
    have hin : i = n := by omega
    subst hin
    refine codeAny_builtin PyProof.Rows.F.entry_set_update_loop ?_
    rw [Around.under_plainId PyProof.Rows.F.plain_set_update_loop _]
    show wpAny _ A.in1 (pyNext (.ref I) >>= _) _ _ s
    refine wpAny_bind (W.done s _ _ hst fun s' hm => ?_)
    show wpAny _ A.in1 (PySem.ret Value.none) _ _ s'
    have hkp' := keepM hm hkp
    exact wpAny_pure (hR s' L es ep t (hm.mono hsub) (hS.keep (fun o e => hm.heap S o hSw e) fun p hp => (hk p (sub g p hp)).keep hkp') g hkp')
  | succ k ih =>
    intro i s hk' hi hst hkp ⟨L, es, ep, t, hS, g⟩ hR
    have hlt : i < n := by omega
    refine codeAny_builtin PyProof.Rows.F.entry_set_update_loop ?_
    rw [Around.under_plainId PyProof.Rows.F.plain_set_update_loop _]
    show wpAny _ A.in1 (pyNext (.ref I) >>= _) _ _ s
    refine wpAny_bind (W.item i s _ _ hlt hst fun v s' hP hst' hm => ?_)
    obtain ⟨p, hp, rfl⟩ := hval i v hP
    have hkp' := keepM hm hkp
    have hS' : SetK w s'.heap S L es ep t := hS.keep (fun o e => hm.heap S o hSw e) fun q hq => (hk q (sub g q hq)).keep hkp'
    have hx : IsK s'.heap p.2 p.1 := (hk p (List.mem_of_getElem? hp)).keep hkp'
    show wpAny _ A.in1 (holding [Value.ref p.1] (setAdd S (.ref p.1)) >>= _) _ _ s'
    refine wpAny_bind (wpAny_holding ?_)
    unfold setAdd
    refine wpAny_holding ?_
    refine wpAny_bind ((nestedKind P w).pyHash hu hx.hk ?_)
    refine add_key (s := { s' with toks := s'.toks + p.2.draws }) hS' hx hu (by have := g.len; omega) fun c h' L' es' ep' t' hsb hS2 c1 c2 => ?_
    have hkp2 : ∀ b o, h0.get? b = some o → h'.get? b = some o := fun b o e => (hsb.2 b (fun z => by rw [z, hS0] at e; cases e)).trans (hkp' b o e)
    refine wpAny_pure ⟨plainId_quiet PyProof.Rows.F.plain_set_update_loop _, ih (i + 1) _ (by omega) hlt (W.frame _ s' _ _ hst' (Nat.le_add_right _ _) fun b hb o e => ?_) hkp2 ⟨L', es', ep', t', hS2, g.step hp c1 c2⟩ fun s'' L2 es2 ep2 t2 hm'' hS'' g'' hkp'' => ?_⟩
    · rw [hsb.2 b (fun h : b = S => hSf (by rw [← h]; exact hb))]; exact e
    · refine hR s'' L2 es2 ep2 t2 (Moved.trans W.gtrans ((hm.mono hsub).then_heap (Nat.le_add_right _ _) fun b o hb e => ?_) hm'') hS'' g'' hkp''
      rw [hsb.2 b (fun h : b = S => hb (by rw [h]; exact List.mem_cons_self))]; exact e
set_option maxHeartbeats 3200000 in
/-- set(xs) -/
theorem call_set_keys {l : Addr} {items : Array Value} (ks : KL) {Q : Value → Shared → Prop} (hh : A.handled = none) (hl : s.heap.IsList l items) (hit : items.toList = ks.map fun p => Value.ref p.1)
    (hk : ∀ p ∈ ks, IsK s.heap p.2 p.1) (hfew : ks.length < 64) (hu : A.units + 16 < cLine)
    (h : ∀ (h' : Heap) (tk : Nat) L es ep t, SetK w h' s.heap.objs.size L es ep t → GotK ks ks.length L → (∀ b o, s.heap.get? b = some o → h'.get? b = some o) → Q (.ref s.heap.objs.size) { s with heap := h', toks := tk }) :
    wpAny (model P w) A (call (.type "set") [.ref l]) Q E s := by
  have hisz : items.size = ks.length := by rw [← Array.length_toList, hit, List.length_map]
  obtain ⟨c, tl, hmro⟩ := PySem.F.called_set.mro
  have hmade := PySem.F.called_set.made
  have hsub := PySem.F.called_set.sub
  refine wpAny_call (codeAny_of_tree ?_)
  show wpAny _ _ (callAny (.type "set") _) _ _ _
  refine wpAny_pure ⟨Code.quiet_builtin _ (by decide +kernel), codeAny_builtin PySem.F.entry_type_call ?_⟩
  rw [Around.under_plain (weight_type_call_type "set" [.ref l] []) rfl]
  have h1 := PySem.F.called_set.notType
  have h2 := PySem.F.called_set.canCreate
  have hct := PySem.F.typeCall_set_1 (.ref l)
  repeat (any_goals (first | assumption | wp_step))
  refine codeAny_mono (code_set_led1 (.ref l) (E := E) (Q₁ := fun obj s₁ => obj = .ref s.heap.objs.size ∧ s₁ = { s with heap := s.heap.push { cls := .type "set", dict := none, data := .set #[] 0 (.fresh 0 0 (!w.params.followText "set-order")) } }) ⟨rfl, rfl⟩) fun r s₁ hr => ?_
  cases r with
  | error e => exact hr
  | ok fl =>
    cases fl with
    | ret obj =>
      obtain ⟨rfl, rfl⟩ := hr
      have hS : (s.heap.push { cls := .type "set", dict := none, data := .set #[] 0 (.fresh 0 0 (!w.params.followText "set-order")) }).get? s.heap.objs.size = some { cls := .type "set", dict := none, data := .set #[] 0 (.fresh 0 0 (!w.params.followText "set-order")) } := Heap.get?_push_size _ rfl
      have hT : Shared.TypeIs { s with heap := s.heap.push { cls := .type "set", dict := none, data := .set #[] 0 (.fresh 0 0 (!w.params.followText "set-order")) } } (.ref s.heap.objs.size) "set" := ⟨_, hS, rfl⟩
      have hli := PySem.F.called_set.init.lookup
      have hbi := PySem.F.called_set.init.bind (.ref s.heap.objs.size)
      repeat (any_goals (first | assumption | wp_step))
      refine codeAny_mono (codeAny_call_builtin (R := wants (fun r s₂ => r = .none ∧ ∃ h' tk L es ep t, s₂ = { s with heap := h', toks := tk } ∧ SetK w h' s.heap.objs.size L es ep t ∧ GotK ks ks.length L ∧
          (∀ b o, s.heap.get? b = some o → h'.get? b = some o)) E) PySem.F.called_set.init.plain PySem.F.entry_set_init (check_set_init_1 hT ?_)) fun r₂ s₂ hr₂ => ?_
      · obtain ⟨ol, hol, hcl, nl, hdl⟩ := hl
        obtain ⟨ocls, odict, odata, oslots⟩ := ol
        simp only at hcl hdl
        subst hcl; subst hdl
        have hol' : (s.heap.push { cls := .type "set", dict := none, data := .set #[] 0 (.fresh 0 0 (!w.params.followText "set-order")) }).get? l = some { cls := .type "list", dict := odict, data := .seq items nl, slots := oslots } := Heap.get?_push_of_some _ hol
        have hsls := PySem.F.sub_list_set
        have hslf := PySem.F.sub_list_frozenset
        have hne : (Value.type "list" == Value.type "dict") = false := by decide
        have hl1 : (s.heap.push { cls := .type "set", dict := none, data := .set #[] 0 (.fresh 0 0 (!w.params.followText "set-order")) }).IsList l items := ⟨_, hol', rfl, nl, rfl⟩
        unfold Builtin.«set.__init__» noKeywords Builtin.Frozenset.updateFrom
        generalize hPI : pyIter = PI
        wp_walk
        subst hPI
        refine wpAny_pyIter_list hl1 ?_
        refine wpAny_bind (wpAny_runValue ?_)
        have hlS : l < s.heap.objs.size := Heap.lt_size hol
        have hh3 : A.in1.in1.in1.handled = none := by simp [hh]
        have hneI : l ≠ (s.heap.push { cls := .type "set", dict := none, data := .set #[] 0 (.fresh 0 0 (!w.params.followText "set-order")) }).objs.size := by
          rw [Heap.size_push]; exact Nat.ne_of_lt (Nat.lt_succ_of_lt hlS)
        have hSf : s.heap.objs.size ∉ [(s.heap.push { cls := .type "set", dict := none, data := .set #[] 0 (.fresh 0 0 (!w.params.followText "set-order")) }).objs.size, l] := by
          rw [Heap.size_push]; simp only [List.mem_cons, List.mem_singleton, List.not_mem_nil, or_false, not_or]
          exact ⟨Nat.ne_of_lt (Nat.lt_succ_self _), Nat.ne_of_gt hlS⟩
        have hval : ∀ (i : Nat) (v : Value), items[i]? = some v → ∃ p, ks[i]? = some p ∧ v = .ref p.1 := fun i v hv => by
          have q : items.toList[i]? = some v := by rw [Array.getElem?_toList]; exact hv
          rw [hit, List.getElem?_map] at q
          cases hq : ks[i]? with
          | none => rw [hq] at q; cases q
          | some p =>
            rw [hq] at q
            exact ⟨p, rfl, (Option.some.inj q).symm⟩
        have none_of : ∀ b, s.heap.objs.size ≤ b → s.heap.get? b = none := fun b hb => by
          cases q : s.heap.get? b with
          | none => rfl
          | some o => exact absurd (Nat.lt_of_lt_of_le (Heap.lt_size q) hb) (Nat.lt_irrefl _)
        refine upd_keys ((Walks.list hh3 _ l hneI items).toS) s.heap.objs.size
          hSf ks hisz hfew hval s.heap hk (none_of _ (Nat.le_refl _)) (fun b hb => none_of b (by
            rw [List.mem_singleton.mp hb, Heap.size_push]
            exact Nat.le_succ _)) (by simp only [Around.in1_units]; omega) (items.size - 0) 0 _ (by omega) (Nat.zero_le _)
          ⟨⟨_, Heap.get?_push_size _ rfl, rfl, rfl⟩, (hl1.push _)⟩ (fun b o e => Heap.get?_push_of_some _ (Heap.get?_push_of_some _ e)) ?hS0 ?hR
        case hS0 => exact ⟨[], #[], 0, _, setK_new (Heap.get?_push_of_some _ hS), ⟨fun p h => (by cases h), fun p h => (by simp at h), Nat.le_refl _⟩⟩
        case hR =>
          intro s' L es ep t hm hS' g' hkp
          obtain ⟨h', g2, d', tk', os'⟩ := s'
          have eg : g2 = s.gens := hm.gens
          have ed : d' = s.drawn := hm.drawn
          have eo : os' = s.os := hm.os
          subst eg; subst ed; subst eo
          show wpAny _ _ _ _ _ _
          refine wpAny_pure ?_
          show wpAny _ _ (PySem.ret Value.none) _ _ _
          rw [hisz] at g'
          exact wpAny_pure ⟨rfl, h', tk', L, es, ep, t, rfl, hS', g', hkp⟩
      · cases r₂ with
        | error e => exact hr₂
        | ok fl₂ =>
          cases fl₂ with
          | ret r =>
            obtain ⟨rfl, h', tk, L, es, ep, t, rfl, hS', g', hk'⟩ := hr₂
            repeat (any_goals (first | assumption | wp_step))
            exact h _ _ _ _ _ _ hS' g' hk'
          | _ => exact hr₂.elim
    | _ => exact hr.elim
end
end Ev

set_option Elab.async false
set_option linter.all false
set_option maxRecDepth 100000
set_option autoImplicit false
namespace Ev
open PySem PySem.Spec PyProof.Rows L2
/-- a permutation of an image comes from a permutation -/
theorem perm_of_map {α β : Type} (f : α → β) : ∀ {l : List α} {m : List β}, m.Perm (l.map f) → ∃ l' : List α, l'.Perm l ∧ m = l'.map f := by
  intro l m h
  have key : ∀ {m k : List β}, m.Perm k → ∀ l : List α, k = l.map f → ∃ l' : List α, l'.Perm l ∧ m = l'.map f := by
    intro m k h
    induction h with
    | nil => intro l e; cases l with
      | nil => exact ⟨[], .nil, rfl⟩
      | cons _ _ => cases e
    | cons x _ ih => intro l e; cases l with
      | nil => cases e
      | cons a l =>
        cases e
        obtain ⟨l', p, e'⟩ := ih l rfl
        exact ⟨a :: l', p.cons a, by rw [List.map_cons, e']⟩
    | swap x y k => intro l e; cases l with
      | nil => cases e
      | cons a l => cases l with
        | nil => cases e
        | cons c l =>
          cases e
          exact ⟨c :: a :: l, .swap _ _ _, rfl⟩
    | trans _ _ ih1 ih2 =>
      intro l e
      obtain ⟨l2, p2, e2⟩ := ih2 l e
      obtain ⟨l1, p1, e1⟩ := ih1 l2 e2
      exact ⟨l1, p1.trans p2, e1⟩
  exact key h l rfl
def adV : V → Addr
  | .ref a => a
  | _ => 0
/-- the rows chosen among the pairs -/
theorem rows_pairs {ps : List (V × D)} : ∀ {L : KL}, (∀ p ∈ L, p ∈ ps.map fun q => (adV q.1, keyOf q.2)) → ∃ qs : List (V × D), L = qs.map (fun q => (adV q.1, keyOf q.2)) ∧ ∀ q ∈ qs, q ∈ ps
  | [], _ => ⟨[], rfl, fun _ h => nomatch h⟩
  | p :: L, h => by
    obtain ⟨qs, e1, e2⟩ := rows_pairs (L := L) fun q hq => h q (List.mem_cons_of_mem _ hq)
    obtain ⟨q, hq, e⟩ := List.mem_map.mp (h p List.mem_cons_self)
    refine ⟨q :: qs, by rw [List.map_cons, e1, e], fun q' hq' => ?_⟩
    rcases List.mem_cons.mp hq' with z | z
    · rw [z]; exact hq
    · exact e2 q' z
section
variable {X : Cx} {b : Bx} [KEq X b.z] {pins : List (Addr × Obj)} {σ : L2.St} {s : Shared}
theorem rep_tup_ref {z : Zt} {m : Mu} {F : Fz} {H : Hp} {v : V} {d : D} (ht : isTup d = true) (r : Rep z m F H v d) : v = .ref (adV v) := by
  cases d with
  | tuple xs => cases r; rfl
  | _ => cases ht
theorem sset_core (hc : X.calm = true) (hu : X.A.units + 100 < cLine) {H : Hp} {Q : VK} {m : Mu} {F : Fz} {w : W} {a : Addr} {vs : List V} {ds : List D} (I : Inv X pins σ H s) (wf : Wf b.z m F w H) (ha : H a = some (.lst vs)) (hr : RepAll b.z m F H vs ds)
    (h1 : ∀ d ∈ ds, isTup d = true ∧ nkOk d = true ∧ d.depth ≤ 8) (h2 : ds.length < 64) (h3 : sortOk ds = true)
    (p : Post b m F H (.ok (.list (sortD (dedD ds))) w) (Rep b.z) Q) :
    wpAny (model X.prog X.w) X.A (call (.type "set") [.ref a]) (fun u s' => wpAny (model X.prog X.w) X.A (call (.builtin "sorted") [u]) (EP X pins σ Q) X.xe s') X.xe s := by
  obtain ⟨al, srt, sh⟩ := sortable_of h3
  obtain ⟨ps, e1, e2, e3⟩ := hr.pairs
  subst e1
  subst e2
  obtain ⟨its, rv, hl, hz⟩ := I.list (X := X) (.inl (.inl ha))
  have hh : X.A.handled = none := I.ok.hd hc
  have dOk : ∀ q ∈ ps, isTup q.2 = true ∧ nkOk q.2 = true ∧ q.2.depth ≤ 8 := fun q hq => h1 _ (List.mem_map.mpr ⟨q, hq, rfl⟩)
  have refs : ∀ q ∈ ps, q.1 = .ref (adV q.1) := fun q hq => rep_tup_ref (dOk q hq).1 (e3 q hq)
  have dp : ∀ q ∈ ps, Dp X.K H q.1 q.2 := fun q hq => (e3 q hq).dp KEq.eq (SeqAt.canLay_of_shaped (sh _ (List.mem_map.mpr ⟨q, hq, rfl⟩)))
  have hit : its = (ps.map fun q => (adV q.1, keyOf q.2)).map fun p => Value.ref p.1 := by
    rw [List.map_map]
    have key : ∀ {l : List (V × D)} {us : List Value}, (∀ q ∈ l, q.1 = .ref (adV q.1)) → Vals (l.map (·.1)) us → us = l.map fun q => Value.ref (adV q.1) := by
      intro l
      induction l with
      | nil => intro us _ h; cases h; rfl
      | cons q l ih =>
        intro us hq h
        rw [List.map_cons] at h
        cases h with
        | cons r t =>
          have e := hq q List.mem_cons_self
          rw [e] at r
          rw [List.map_cons, ← ih (fun q' hq' => hq q' (List.mem_cons_of_mem _ hq')) t, show _ = Value.ref (adV q.1) from r]
    exact key refs rv
  have isk : ∀ (s' : Shared) (I' : Inv X pins σ H s') q, q ∈ ps → IsK s'.heap (keyOf q.2) (adV q.1) := fun s' I' q hq => by
    obtain ⟨t1, t2, t3⟩ := dOk q hq
    have hq1 := refs q hq
    obtain ⟨as, hrd⟩ := Dp.reads I' q.2 q.1 (.ref (adV q.1)) (dp q hq) (by rw [hq1]; rfl)
    obtain ⟨k1, k2⟩ := keyOf_only q.2 t2
    exact ⟨keyOf_is q.2 _ as t2 hrd, by rw [k2]; exact t3, k1⟩
  rw [List.length_map] at h2 hz
  refine call_set_keys (w := X.w) (ps.map fun q => (adV q.1, keyOf q.2)) hh hl.isList (by simpa using hit) (fun q hq => ?_) (by rw [List.length_map]; exact h2) (by omega) fun h' tk L es ep t R g k => ?_
  · obtain ⟨q', hq', rfl⟩ := List.mem_map.mp hq
    exact isk s I q' hq'
  have I1 : Inv X pins σ H { s with heap := h', toks := tk } := I.kept (t' := tk) k
  have gsub : ∀ q ∈ L, q ∈ ps.map fun q => (adV q.1, keyOf q.2) := fun q hq => List.mem_of_mem_take (g.sub q hq)
  obtain ⟨qs, eL, hqs⟩ := rows_pairs gsub
  obtain ⟨o, ho, hex, hd⟩ := R.ob
  have hsz := rows_len R.rows
  have hfew := R.few
  refine Calls.call_function_entry kind_sorted plain_sorted entry_sorted (args_sorted1 _) ?_
  unfold Builtin.«sorted»
  refine wpAny_bind (m := checkCount "sorted" 1 1 _) (wpAny_pure ?_)
  refine wpAny_bind (collect_set (w := X.w) (A := X.A.in1) hh ⟨o, ho, hex.1, hd⟩ R.fits (by unfold scanBound; omega) R.tab.ris R.led fun s2 us k2 hz2 g2 o2 pm => ?_)
  have hes : es.toList.map (·.2) = qs.map fun q => Value.ref (adV q.1) := by
    rw [R.rows, eL, List.map_map, List.map_map]
    rfl
  rw [hes] at pm
  obtain ⟨qs', pq, eus⟩ := perm_of_map _ pm
  have hus : us.length < 64 := by rw [eus, List.length_map, pq.length_eq, ← List.length_map (f := fun q : V × D => (adV q.1, keyOf q.2)), ← eL]; exact hfew
  have mem' : ∀ q ∈ qs', q ∈ ps := fun q hq => hqs q (pq.mem_iff.mp hq)
  refine wpAny_bind (wpAny_newList ?_ (by rw [sizeLine_eq]; omega))
  have hoL : (s2.heap.push (seqObj "list" us.toArray 0)).get? s2.heap.objs.size = some (seqObj "list" us.toArray 0) := Heap.get?_push_size _ rfl
  -- what is kept at each stage
  have kk : ∀ c ob, s.heap.get? c = some ob → (s2.heap.push (seqObj "list" us.toArray 0)).get? c = some ob := fun c ob e => Heap.get?_push_of_some _ (k2 c ob (k c ob e))
  have Ik : Inv X pins σ H { s with heap := s2.heap.push (seqObj "list" us.toArray 0), toks := s2.toks } := I.kept (t' := s2.toks) kk
  have each : PySem.W.EachIs (fun u (q : V × D) => RelV q.1 u) us qs' := by
    rw [eus]
    have key : ∀ l : List (V × D), (∀ q ∈ l, q ∈ ps) → PySem.W.EachIs (fun u (q : V × D) => RelV q.1 u) (l.map fun q => Value.ref (adV q.1)) l := by
      intro l
      induction l with
      | nil => intro _; exact .nil
      | cons q l ih =>
        intro h
        refine .cons ?_ (ih fun q' hq' => h q' (List.mem_cons_of_mem _ hq'))
        have e := refs q (h q List.mem_cons_self)
        show RelV q.1 (Value.ref (adV q.1))
        generalize hx : adV q.1 = x at e
        rw [e]
        rfl
    exact key qs' mem'
  have er : PySem.W.EachIs (fun u (q : V × D) => ∃ as', Reads (s2.heap.push (seqObj "list" us.toArray 0)) u q.2 as' ∧ s2.heap.objs.size ∉ as') us qs' := by
    refine (PySem.W.each_mem each).mono fun u q ⟨ru, hq⟩ => ?_
    obtain ⟨as, hrd⟩ := Dp.reads Ik q.2 q.1 u (dp q (mem' q hq)) ru
    refine ⟨[], ?_, by simp⟩
    -- tuples of ints alone are read without any list
    have key : ∀ n : Nat, (∀ (x : D) (v : Value) (as : List Addr), sizeOf x ≤ n → nkOk x = true → Reads (s2.heap.push (seqObj "list" us.toArray 0)) v x as → as = []) ∧ ∀ (xs : List D) (vs : List Value) (as : List Addr), sizeOf xs ≤ n → nkAll xs = true → ReadsAll (s2.heap.push (seqObj "list" us.toArray 0)) vs xs as → as = [] := by
      intro n
      induction n with
      | zero =>
        refine ⟨fun x v as hn => ?_, fun xs vs as hn => ?_⟩
        · cases x <;> simp at hn
        · cases xs <;> simp at hn
      | succ n ih =>
        have one : ∀ (x : D) (v : Value) (as : List Addr), sizeOf x ≤ n + 1 → nkOk x = true → Reads (s2.heap.push (seqObj "list" us.toArray 0)) v x as → as = [] := fun x v as hn hk r => by
          cases r with
          | int => rfl
          | tuple k1 k2 k3 k4 => exact ih.2 _ _ _ (by simp at hn; omega) hk k4
          | _ => simp [nkOk] at hk
        refine ⟨one, fun xs vs as hn hk r => ?_⟩
        cases r with
        | nil => rfl
        | cons k1 k2 =>
          rw [nkAll, Bool.and_eq_true] at hk
          simp at hn
          rw [ih.1 _ _ _ (by omega) hk.1 k1, ih.2 _ _ _ (by omega) hk.2 k2]
          rfl
    have e := (key (sizeOf q.2)).1 q.2 u as (Nat.le_refl _) (dOk q (mem' q hq)).2.1 hrd
    rw [e] at hrd
    exact hrd
  have hle : qs'.length ≤ sizeLine := by
    have : us.length = qs'.length := by rw [eus, List.length_map]
    rw [sizeLine_eq]
    omega
  refine wpAny_bind (wpAny_holding (list_sort_any (s := { s2 with heap := s2.heap.push (seqObj "list" us.toArray 0) }) (A := X.A.in1) (enc := fun q : V × D => q.2) hoL each er ?_ ?_ hle ?_ fun out hlen hout => ?_))
  · intro x hx y hy
    obtain ⟨q, hq, rfl⟩ := List.mem_map.mp hx
    obtain ⟨q', hq', rfl⟩ := List.mem_map.mp hy
    exact al _ (List.mem_map.mpr ⟨q, mem' q hq, rfl⟩) _ (List.mem_map.mpr ⟨q', mem' q' hq', rfl⟩)
  · rcases srt with q | q
    · exact .inl fun d hd => by
        obtain ⟨q', hq', rfl⟩ := List.mem_map.mp hd
        exact q _ (List.mem_map.mpr ⟨q', mem' q' hq', rfl⟩)
    · exact .inr fun d hd => by
        obtain ⟨q', hq', rfl⟩ := List.mem_map.mp hd
        exact q _ (List.mem_map.mpr ⟨q', mem' q' hq', rfl⟩)
  · intro q hq
    have := (dOk q (mem' q hq)).2.2
    show X.A.units + 1 + 1 + q.2.depth < cLine
    omega
  -- behind the sort
  generalize hms : qs'.mergeSort (PySem.W.dataLe false fun q : V × D => q.2) = zs at hout
  have zmem : ∀ q ∈ zs, q ∈ ps := fun q hq => by rw [← hms] at hq; exact mem' q (List.mem_mergeSort.mp hq)
  have zl : zs.length = qs'.length := by rw [← hms, List.length_mergeSort]
  have hdata : zs.map (·.2) = sortD (dedD (ps.map (·.2))) := by
    have nk : ∀ x ∈ ps.map (·.2), nkOk x = true := fun x hx => (h1 x hx).2.1
    have pz : zs.Perm qs := by rw [← hms]; exact (List.mergeSort_perm _ _).trans pq
    refine sorted_ded nk (fun x hx y hy => al x hx y hy) ?_ (fun x => ?_) ?_
    · have e : zs.map (·.2) = (qs'.map (·.2)).mergeSort leS := by
        rw [← hms]
        exact PySem.W.sort_maps (fun q : V × D => q.2) fun _ _ _ _ => rfl
      rw [e]
      exact PySem.W.sort_pairwise leS_total _
    · constructor
      · intro hx
        obtain ⟨q, hq, rfl⟩ := List.mem_map.mp hx
        exact List.mem_map.mpr ⟨q, zmem q hq, rfl⟩
      · intro hx
        obtain ⟨q, hq, rfl⟩ := List.mem_map.mp hx
        have hk := g.all (adV q.1, keyOf q.2) (by rw [List.take_length]; exact List.mem_map.mpr ⟨q, hq, rfl⟩)
        rw [eL, List.map_map] at hk
        obtain ⟨q2, hq2, e2⟩ := List.mem_map.mp hk
        have e3 : q2.2 = q.2 := keyOf_inj _ _ (dOk q2 (hqs q2 hq2)).2.1 (dOk q hq).2.1 e2
        rw [← e3]
        exact List.mem_map.mpr ⟨q2, pz.mem_iff.mpr hq2, rfl⟩
    · refine (pz.map (·.2)).nodup_iff.mpr ?_
      have nd := R.nd
      rw [eL, List.map_map] at nd
      rw [List.Nodup, List.pairwise_map] at nd ⊢
      exact nd.imp fun h e => h (congrArg keyOf e)
  obtain ⟨cc, hcc⟩ := sortedHeap_at (vs := us) (out := List.toArray out) hoL
  have rv' := each_vals hout
  have hn : H s2.heap.objs.size = none := I.hok.fresh (Nat.le_trans (Nat.le_of_lt (by
    have := Heap.lt_size ho
    have h0 : s.heap.objs.size < h'.objs.size := this
    exact h0)) hz2)
  have kF : ∀ c ob, s.heap.get? c = some ob → (sortedHeap (s2.heap.push (seqObj "list" us.toArray 0)) s2.heap.objs.size us (List.toArray out)).get? c = some ob := fun c ob e => by
    have q := k2 c ob (k c ob e)
    have hlt := Heap.lt_size q
    rw [sortedHeap_old (Nat.ne_of_lt hlt) (by rw [size_push']; exact Nat.lt_succ_of_lt hlt)]
    exact Heap.get?_push_of_some _ q
  have hsz2 : s.heap.objs.size ≤ s2.heap.objs.size := by
    have h0 : s.heap.objs.size < h'.objs.size := Heap.lt_size ho
    exact Nat.le_trans (Nat.le_of_lt h0) hz2
  have hlenz : (zs.map (·.1)).length ≤ sizeLine := by rw [List.length_map, zl]; exact hle
  have J : Inv X pins σ (upd H s2.heap.objs.size (.lst (zs.map (·.1)))) { s with heap := sortedHeap (s2.heap.push (seqObj "list" us.toArray 0)) s2.heap.objs.size us (List.toArray out), gens := s2.gens, drawn := s2.drawn, toks := s2.toks } :=
    I.call (ch := []) (Un.laid kF hsz2 hn) (I.hok.laid kF hsz2 ⟨hlenz, out, cc, rv', by simpa using hcc⟩) (by rw [show s2.gens = s.gens from g2]; exact I.bare) (fun _ z => nomatch z)
  have es2 : ({ s2 with heap := sortedHeap (s2.heap.push (seqObj "list" us.toArray 0)) s2.heap.objs.size us (List.toArray out) } : Shared) = { s with heap := sortedHeap (s2.heap.push (seqObj "list" us.toArray 0)) s2.heap.objs.size us (List.toArray out), gens := s2.gens, drawn := s2.drawn, toks := s2.toks } := by
    have o2' : s2.os = s.os := o2
    cases s2
    cases s
    cases o2'
    rfl
  refine wpAny_pure ⟨_, rfl, ?_⟩
  show EP X pins σ Q (.ref s2.heap.objs.size) _
  rw [es2]
  refine ⟨.ref s2.heap.objs.size, _, J, rfl, ?_⟩
  have hr' : RepAll b.z m F H (zs.map (·.1)) (sortD (dedD (ps.map (·.2)))) := by
    rw [← hdata]
    exact RepAll.of_pairs fun q hq => e3 q (zmem q hq)
  exact p.lst wf hr' _ hn
end
section
variable {T : Tb} {fd : Nat → FuncData} {ca : Nat → Addr} {b : Bx} {cf : CF} {k fu : Nat} {X : Cx} {N : List Str} {sc : Scope} {fv : Str → Bool} (O : Ok T fd ca b cf k X N sc fv)
include O
variable {a : Expr} {ca1 : E} {p1 p2 p3 pos : Pos}
theorem g_sset (ha : PE X a (rR b (evE cf ca1))) (h : bB T sc "sorted" = true := by decide +kernel) (h2 : bB T sc "set" = true := by decide +kernel) (hs : notStar a = true := by rfl) : PE X (.Call (.Name "sorted" p1) [.Call (.Name "set" p2) [a] [] p3] [] pos) (rE b (evE cf (.bi .sset ca1))) := by
  have hs1 : starEach [.Call (.Name "set" p2) [a] [] p3] X.env = (false, eval (.Call (.Name "set" p2) [a] [] p3) X.env) :: starEach [] X.env := rfl
  refine ⟨fun pins s σ H Q I hq => ?_⟩
  obtain ⟨m, F, s', w, wf, sl, p⟩ := hq
  have p : Post b m F H (bnd (evE cf ca1 s') (fun x => lift (biD .sset x)) w) (Rep b.z) Q := by simpa only [evE] using p
  refine wpAny_Call_Name_kw (ld_blt I (O.blt h).1 (O.blt h).2.1 rfl ?_ (by decide) (by decide))
  refine PyProof.Rows.callWith_builtin1 ?_ hs1 rfl
  rw [hs1]
  show wpAny _ _ (spliced ((false, eval (.Call (.Name "set" p2) [a] [] p3) X.env) :: backTo pos (starEach [] X.env))) _ _ s
  refine Calls.spliced_cons ?_
  refine wpAny_Call_Name_kw (ld_blt I (O.blt h2).1 (O.blt h2).2.1 rfl ?_ (by decide) (by decide))
  refine PyProof.Rows.callWith_type1 (thn ((pa_cons ha pa_nil (star_cons hs)).run p3 pins s σ H (fun vs H1 => ∃ m1 F1 w1 v d, vs = [v] ∧ Wf b.z m1 F1 w1 H1 ∧ RepR b.z m1 F1 H1 v d ∧ Post b m1 F1 H1 (lift (ssetD d) w1) (Rep b.z) Q) I
    ⟨m, F, s', w, wf, sl, (p.bind).imp fun v H1 ⟨m1, F1, d, w1, f1, wf1, r1, p1⟩ => ⟨m1, F1, w1, v, d, rfl, wf1, r1, p1⟩⟩) fun us s1 ⟨vs, H1, I1, rv, m1, F1, w1, v, d, ev, wf1, r1, p1⟩ => ?_) (star_cons hs) rfl
  subst ev
  obtain ⟨d', e, p2⟩ := p1.lift1
  unfold ssetD at e
  split at e
  · rename_i xs
    split at e
    · rename_i hc
      cases e
      simp only [Bool.and_eq_true, List.all_eq_true, decide_eq_true_eq] at hc
      obtain ⟨⟨hc1, hc2⟩, hc3⟩ := hc
      obtain ⟨l, vs, rfl, hl, hr⟩ := r1.list
      rw [Vals.ref1 rv]
      refine wpAny_mono (sset_core O.calm (by have := O.un; omega) I1 wf1 hl hr (fun d hd => ⟨(hc1 d hd).1.1, (hc1 d hd).1.2, (hc1 d hd).2⟩) hc2 hc3 p2) (fun u s2 hq => Calls.spliced_nil hq) fun _ _ x => x
    · cases e
  · cases e
end
end Ev

set_option Elab.async false
set_option linter.all false
set_option maxRecDepth 100000
set_option autoImplicit false
namespace Ev
open PySem PySem.Spec PyProof.Rows L2
/-- a reading: for a slot of its own, or frozen -/
def rX (m : Bool) (b : Bx) (f : Sl → M D) : TE := if m then rF b f else rE b f
def RlX (m : Bool) (z : Zt) (Hs : Hp) : Mu → Fz → Hp → V → D → Prop := if m then FreshR z Hs else Rep z
theorem rX_of {m : Bool} {b : Bx} {f : Sl → M D} {σ : L2.St} {H : Hp} {Q : VK} (h : ∃ mu F s w, Wf b.z mu F w H ∧ SlR b.z mu F b.H0 s σ H ∧ Post b mu F H (f s w) (RlX m b.z H) Q) : rX m b f σ H Q := by
  cases m with
  | true => exact h
  | false => exact h
section
variable {z : Zt} {m m' : Mu} {F F' : Fz} {H H' Hs : Hp} {w : W} {v : V} {d : D}
theorem FreshR.fm (h : FreshR z Hs m F H v d) (wf : Wf z m F w H) (f : Fm m F H m' F' H') : FreshR z Hs m' F' H' v d := by
  obtain ⟨a, e, hn, nF, nM, hc⟩ := h
  have ho : ∃ o, H a = some o := by
    rcases hc with ⟨vs, ds, _, h1, _⟩ | ⟨ks, kvs, _, h1, _⟩
    · exact ⟨_, h1⟩
    · exact ⟨_, h1⟩
  obtain ⟨o, ho⟩ := ho
  refine ⟨a, e, hn, fun hF => ?_, f.out ho nM, ?_⟩
  · rcases f.fnew a hF with q | q
    · exact nF q
    · rw [ho] at q; cases q
  · rcases hc with ⟨vs, ds, ed, h1, h2⟩ | ⟨ks, kvs, ed, h1, h2⟩
    · exact .inl ⟨vs, ds, ed, f.keep a _ h1 nM, wf.repAll f h2⟩
    · exact .inr ⟨ks, kvs, ed, f.keep a _ h1 nM, wf.repD f h2⟩
theorem RlX.fm {mm : Bool} (h : RlX mm z Hs m F H v d) (wf : Wf z m F w H) (f : Fm m F H m' F' H') : RlX mm z Hs m' F' H' v d := by
  cases mm with
  | true => exact FreshR.fm (show FreshR z Hs m F H v d from h) wf f
  | false => exact wf.rep f (show Rep z m F H v d from h)
/-- a slot gets it -/
theorem SlR.put {mm : Bool} {H0 : Hp} {s : Sl} {σ : L2.St} {i : Nat} {sv : SV} (x : SlR z m F H0 s σ H) (hi : i < s.length) (hv : slotV mm d = some sv) (r : RlX mm z Hs m F H v d) (h0 : ∀ a, Hs a = none → H0 a = none) (ne : ∀ j a, j ≠ i → isMut s j → Hs a = none → σ[j]? ≠ some (some (.ref a))) : SlR z m F H0 (s.set i (some sv)) (σ.set i (some v)) H := by
  cases mm with
  | false =>
    cases hv
    exact x.setI r hi
  | true =>
    obtain ⟨a, rfl, hn, nF, nM, hc⟩ := (show FreshR z Hs m F H v d from r)
    have hv : mutS d = some sv := hv
    have ho : OwnR z m F H a sv := by
      rcases hc with ⟨vs, ds, rfl, h1, h2⟩ | ⟨ks, kvs, rfl, h1, h2⟩
      · cases hv
        exact ⟨vs, h1, h2⟩
      · cases hv
        exact ⟨ks, h1, h2⟩
    exact x.setM hi ho nF nM (h0 a hn) fun j hj hm => ne j a hj hm hn
end
section
variable {X : Cx} {b : Bx} [KEq X b.z] {cf : CF} {fu : Nat} {e1 e2 : Expr} {c1 c2 : E} {m1 m2 : Bool} {i j : Nat}
theorem par_core (hij : i ≠ j) {D : Ends} {σ : L2.St} {H : Hp} {R : List V → Hp → Prop} (h : rS b (evS cf fu (.par i j m1 m2 c1 c2)) D σ H)
    (hR : ∀ v w H2, (∀ H3, (∀ a o, H2 a = some o → H3 a = some o) → D.nx ((σ.set i (some v)).set j (some w)) H3) → R [v, w] H2) : tCons (rX m1 b (evE cf c1)) (tCons (rX m2 b (evE cf c2)) tNil) σ H R := by
  obtain ⟨m, F, s, w, rel, p⟩ := h
  have p : PostS b m F H (bnd (evE cf c1 s) (fun x => bnd (evE cf c2 s) fun y => bnd (lift (slotV m1 x)) fun u => bnd (lift (slotV m2 y)) fun v => if i < s.length ∧ j < s.length then ret (.nx ((s.set i (some u)).set j (some v))) else bad) w) D := by simpa only [evS] using p
  refine rX_of ⟨m, F, s, w, rel.wf, rel.sl, (p.bind rel.fm rel.wf).imp fun v H1 ⟨m3, F3, d1, w3, f1, wf1, r1, p1⟩ => ?_⟩
  have rel1 := rel.step f1 wf1
  refine rX_of ⟨m3, F3, s, w3, wf1, rel1.sl, (p1.bind rel1.fm rel1.wf).imp fun u H2 ⟨m4, F4, d2, w4, f2, wf2, r2, p2⟩ => ?_⟩
  have rel2 := rel1.step f2 wf2
  obtain ⟨sv1, k1, p3⟩ := p2.lift
  obtain ⟨sv2, k2, p4⟩ := p3.lift
  by_cases hl : i < s.length ∧ j < s.length
  · rw [if_pos hl] at p4
    refine hR v u H2 fun H3 hk => ?_
    have r1' := RlX.fm r1 wf1 f2
    have no0 : ∀ a, H a = none → b.H0 a = none := fun a ha => rel.fm.unlaid ha
    have no1 : ∀ a, H1 a = none → b.H0 a = none := fun a ha => no0 a (f1.unlaid ha)
    have there : ∀ k a, isMut s k → σ[k]? = some (some (.ref a)) → H a ≠ none := fun k a hm hc hn => by
      obtain ⟨o, ho⟩ := rel.sl.there hm hc
      rw [hn] at ho
      cases ho
    have s1 := rel2.sl.put hl.1 k1 r1' no0 fun k a hk hm hn hc => there k a hm hc hn
    have s2 := s1.put (i := j) (by rw [List.length_set]; exact hl.2) k2 r2 no1 fun k a hk hm hn hc => by
      by_cases hki : k = i
      · subst hki
        rw [List.getElem?_set_self (by rw [← rel.sl.len]; exact hl.1)] at hc
        cases hc
        -- the slot's object stood before the second was made
        cases m1 with
        | false =>
          cases k1
          rcases hm with ⟨xs, e⟩ | ⟨xs, e⟩
          · rw [List.getElem?_set_self hl.1] at e; cases e
          · rw [List.getElem?_set_self hl.1] at e; cases e
        | true =>
          obtain ⟨a', e, hn', nF, nM, hc'⟩ := (show FreshR b.z H m3 F3 H1 (.ref a) d1 from r1)
          cases e
          rcases hc' with ⟨vs, ds, _, g1, _⟩ | ⟨ks, kvs, _, g1, _⟩
          · rw [hn] at g1; cases g1
          · rw [hn] at g1; cases g1
      · rw [List.getElem?_set_ne (Ne.symm hki)] at hc
        exact there k a (isMut_setM hm hki) hc (f1.unlaid hn)
    have rel3 : RelS b m4 F4 ((s.set i (some sv1)).set j (some sv2)) w4 ((σ.set i (some v)).set j (some u)) H2 := ⟨wf2, s2, rel2.fm⟩
    have f3 : Fm m4 F4 H2 m4 F4 H3 := ⟨fun a o e _ => hk a o e, fun a o e => ⟨o, hk a o e⟩, fun _ h => .inl h, fun _ _ h => h, fun _ h => h, fun _ h => .inl h⟩
    have wf3 : Wf b.z m4 F4 w4 H3 := wf2.more (fun _ h => h) hk fun a hF => ⟨.inl hF, by
      obtain ⟨o, e⟩ := wf2.dom a hF
      exact ⟨o, hk a o e⟩⟩
    exact p4 m4 F4 H3 _ (wf2.fk f3) (rel3.step f3 wf3)
  · rw [if_neg hl] at p4
    exact p4.elim
variable {x y : Str} {px py pt pt2 pos : Pos} {kt k2 : Nat}
theorem ss_par (hc : X.calm = true) (hN : X.N.Nodup) (hi : X.N[i]? = some x) (hj : X.N[j]? = some y) (hij : i ≠ j) (hx : X.env.scope.names.lookup x = some .local) (hy : X.env.scope.names.lookup y = some .local)
    (h1 : PE X e1 (rX m1 b (evE cf c1))) (h2 : PE X e2 (rX m2 b (evE cf c2))) (n1 : notStar e1 = true) (n2 : notStar e2 = true)
    (hw : swappedStores [.Tuple [.Name x px, .Name y py] kt pt] (.Tuple [e1, e2] k2 pt2) X.env = pure (some [x, y])) : PS X (.Assign [.Tuple [.Name x px, .Name y py] kt pt] (.Tuple [e1, e2] k2 pt2) pos) (rS b (evS cf fu (.par i j m1 m2 c1 c2))) :=
  (ps_par hc hN hi hj hij hx hy (pa_cons h1 (pa_cons h2 pa_nil (star_cons n2)) (star_cons n1)) hw rfl).imp fun D σ H h => par_core hij h fun v u H2 q => ⟨v, u, rfl, q H2 fun _ _ h => h⟩
end
def twoL (sc : Scope) (x y : Str) (px py : Pos) (a b : Expr) : Bool := lclB sc x && lclB sc y && (py.line == px.line) && !(y == x) && !([a, b].all (foldedForSure 8)) && !([a, b].all (constantsAlone 8)) && notStar a && notStar b
def oneC (sc : Scope) (x y : Str) (px py : Pos) (a b : Expr) : Bool := (!(lclB sc x) || !(lclB sc y) || !(py.line == px.line) || [a, b].all (foldedForSure 8)) && !(y == x) && notStar a && notStar b
theorem lcl_beq {sc : Scope} {x : Str} : (sc.names.lookup x == some .local) = lclB sc x := by
  unfold lclB
  cases e : sc.names.lookup x with
  | none => rfl
  | some k => cases k <;> rfl
theorem star_m : ∀ {e : Expr}, notStar e = true → (match e with | .Starred .. => true | _ => false) = false := by
  intro e h
  cases e <;> first | rfl | (exact absurd h (by simp [notStar]))
theorem two_dups {x y : Str} (h : (y == x) = false) : ([x, y].eraseDups) = [x, y] := by
  rw [List.eraseDups_cons]
  have : [y].filter (fun b => !b == x) = [y] := by simp [h]
  rw [this, List.eraseDups_cons]
  rfl
section
variable {env : Env} {sc : Scope} {x y : Str} {px py pt pt2 : Pos} {a b : Expr} {kt k2 : Nat}
theorem sw2_yes (hk : env.blockKind = .function) (hs : env.scope = sc) (h : twoL sc x y px py a b = true) : swappedStores [.Tuple [.Name x px, .Name y py] kt pt] (.Tuple [a, b] k2 pt2) env = pure (some [x, y]) := by
  subst hs
  simp only [twoL, Bool.and_eq_true, Bool.not_eq_true'] at h
  obtain ⟨⟨⟨⟨⟨⟨⟨h1, h2⟩, h3⟩, h4⟩, h5⟩, h6⟩, h7⟩, h8⟩ := h
  have e1 : (env.kindOf x == some .local) = true := (lcl_beq (sc := env.scope)).trans h1
  have e2 : (env.kindOf y == some .local) = true := (lcl_beq (sc := env.scope)).trans h2
  have e3 : (y == x) = false := h4
  unfold swappedStores
  simp only [hk, List.head?_cons, Option.map_some, Option.getD_some, Expr.pos, List.filterMap_cons, List.filterMap_nil, e1, e2, h3, beq_self_eq_true, Bool.and_true, if_true, h5, h6, List.length_cons, List.length_nil, pure_bind]
  have e4 := two_dups e3
  have s1 := star_m h7
  have s2 := star_m h8
  simp [e4]
  intro h
  rcases h with h | h
  · cases a <;> first | cases (show false = true from h7) | cases (show false = true from h)
  · cases b <;> first | cases (show false = true from h8) | cases (show false = true from h)
theorem sw2_no (hk : env.blockKind = .function) (hs : env.scope = sc) (h : oneC sc x y px py a b = true) : swappedStores [.Tuple [.Name x px, .Name y py] kt pt] (.Tuple [a, b] k2 pt2) env = pure none := by
  subst hs
  simp only [oneC, Bool.and_eq_true, Bool.not_eq_true'] at h
  obtain ⟨⟨⟨h1, h4⟩, h7⟩, h8⟩ := h
  have e1 : (env.kindOf x == some .local) = lclB env.scope x := lcl_beq
  have e2 : (env.kindOf y == some .local) = lclB env.scope y := lcl_beq
  have e3 : (y == x) = false := h4
  have e4 := two_dups e3
  have s1 := star_m h7
  have s2 := star_m h8
  unfold swappedStores
  simp only [hk, List.head?_cons, Option.map_some, Option.getD_some, Expr.pos, List.filterMap_cons, List.filterMap_nil, e1, e2, beq_self_eq_true, Bool.and_true, List.length_cons, List.length_nil, pure_bind]
  cases q1 : lclB env.scope x <;> cases q2 : lclB env.scope y <;> cases q3 : (py.line == px.line) <;> rw [q1, q2, q3] at h1 <;> simp [e4, s1, s2] <;> simp at h1
  simp [h1]
end
section
variable {T : Tb} {fd : Nat → FuncData} {ca : Nat → Addr} {b : Bx} {cf : CF} {k fu : Nat} {X : Cx} {N : List Str} {sc : Scope} (O : Ok T fd ca b cf k X N sc (fun _ => true))
include O
variable {e1 e2 : Expr} {c1 c2 : E} {m1 m2 : Bool} {i j : Nat} {x y : Str} {px py pt pt2 pos : Pos} {kt k2 : Nat}
theorem Ok.bk : X.env.blockKind = .function := by
  have h : X.env.scope.kind = .function := by rw [O.esc]; exact O.kd
  unfold Env.blockKind
  rw [h]
  rfl
theorem g_par (h1 : PE X e1 (rX m1 b (evE cf c1))) (h2 : PE X e2 (rX m2 b (evE cf c2))) (h : (twoL sc x y px py e1 e2 && decide (N[i]? = some x) && decide (N[j]? = some y) && !decide (i = j)) = true := by decide +kernel) :
    PS X (.Assign [.Tuple [.Name x px, .Name y py] kt pt] (.Tuple [e1, e2] k2 pt2) pos) (rS b (evS cf fu (.par i j m1 m2 c1 c2))) := by
  simp only [Bool.and_eq_true, decide_eq_true_eq, Bool.not_eq_true', decide_eq_false_iff_not] at h
  obtain ⟨⟨⟨h3, h4⟩, h5⟩, h6⟩ := h
  have q := h3
  simp only [twoL, Bool.and_eq_true, Bool.not_eq_true'] at q
  obtain ⟨⟨⟨⟨⟨⟨⟨q1, q2⟩, _⟩, _⟩, _⟩, _⟩, q7⟩, q8⟩ := q
  exact ss_par O.calm (by rw [O.eN]; exact O.nd) (by rw [O.eN]; exact h4) (by rw [O.eN]; exact h5) h6 (by rw [O.esc]; exact lcl_of q1) (by rw [O.esc]; exact lcl_of q2) h1 h2 q7 q8 (sw2_yes O.bk O.esc h3)
end
end Ev

set_option Elab.async false
set_option linter.all false
set_option maxRecDepth 100000
set_option autoImplicit false
set_option Elab.async false
set_option linter.all false
set_option maxRecDepth 100000
set_option autoImplicit false
namespace Ev
open PySem PySem.Spec PyProof.Rows L2
section
variable {X : Cx} {b : Bx} [KEq X b.z] {cf : CF} {fu : Nat}
/-- any dict that may be read -/
theorem RepR.dictAt {z : Zt} {m : Mu} {F : Fz} {H : Hp} {v : V} {ds : List (D × D)} (hr : RepR z m F H v (.dict ds)) (hk : kdOk ds = true) : ∃ a o, v = .ref a ∧ Rd H a o ∧ RepD z m F H a o ds := by
  rcases hr with r | ⟨a, vs, _, e, q, h1, h2, _⟩ | ⟨a, o, _, e, q, h1, h2, _⟩
  · generalize hd : PyData.dict ds = d at r
    cases r with
    | @dK a od o ds' h1 h2 h3 => cases hd; exact ⟨a, o, rfl, .inr ⟨od, h2⟩, h3⟩
    | fn n => cases hd; simp [kdOk, keyOk, tkOk, isTup] at hk
    | scr => cases hd; simp [kdOk, keyOk, tkOk, isTup] at hk
    | ob h => cases hd; simp [kdOk, keyOk, tkOk, isTup] at hk
    | _ => cases hd
  · cases q
  · cases q
    exact ⟨a, o, e, .inl h1, h2⟩
end
section
variable {T : Tb} {fd : Nat → FuncData} {ca : Nat → Addr} {b : Bx} {cf : CF} {kk fu : Nat} {X : Cx} {N : List Str} {sc : Scope} {fv : Str → Bool} (O : Ok T fd ca b cf kk X N sc fv)
include O
end
end Ev

set_option Elab.async false
set_option linter.all false
set_option maxRecDepth 100000
set_option maxHeartbeats 2000000
set_option autoImplicit false
namespace Ev
open PySem PySem.Spec PyProof.Rows L2 LamX
/-- the heap behind the making: as before, or one code object more -/
def LamTo (H : Hp) (P : Addr) (q : Str) (ps : Array Value) (H1 : Hp) : Prop :=
  H1 = H ∨ ∃ (k : Addr) (qs : Array Value), H k = none ∧ H1 = upd (upd H P (.tbl qs)) k (CodeO k q) ∧ TriplesOk qs.toList ∧ ∀ (pos : Pos) (cv : Value), codeAmong pos qs.toList = some cv → codeAmong pos ps.toList = some cv ∨ cv = .ref k
def TabE (H : Hp) (P : Addr) (q : Str) (ps : Array Value) : Prop := H P = some (.tbl ps) ∧ TriplesOk ps.toList ∧ ∀ (pos : Pos) (cv : Value), codeAmong pos ps.toList = some cv → ∃ k, cv = .ref k ∧ H k = some (CodeO k q)
section
variable {X : Cx} {pins : List (Addr × Obj)} {σ : L2.St} {H : Hp} {s : Shared}
theorem lam_made {c P : Addr} {ps : Array Value} {params : Arguments} {body : Expr} {scope : Scope} {pos : Pos} {E : Value → Shared → Prop} {Q : Value → Shared → Prop} (I : Inv X pins σ H s) (TB : TabB X.base X.mg c P) (hcode : X.env.code = .ref c)
    (hT : TabE H P (X.env.qual ++ "<lambda>") ps) (hdef : defaultsOf params X.env = ([], [])) (hfree : ∀ y ∈ scope.names, y.2 = .free → ∃ c, X.env.cells.lookup y.1 = some c)
    (h : ∀ (f k : Addr) (pm ctv : Value) (H1 : Hp) (s' : Shared), Inv X pins σ H1 s' → LamTo H P (X.env.qual ++ "<lambda>") ps H1 →
      s'.heap.get? f = some (PySem.W.kla_obj "<lambda>" (X.env.qual ++ "<lambda>") params body scope (cloFrom X.env.cells scope.names []) pm k ctv) → H1 f = none → f ∉ frs X.stack → H1 k = some (CodeO k (X.env.qual ++ "<lambda>")) → Q (.ref f) s') :
    wpAny (model X.prog X.w) X.A (eval (.Lambda params body scope pos) X.env) Q E s := by
  obtain ⟨hP, ht, ha⟩ := hT
  refine PySem.W.kla_eval hdef ?_
  have bT : s.heap.BuiltinsAt X.mg P := TB.bm.keeps I.bk
  have gP : s.heap.get? P = some { cls := .none, data := .fields ps } := I.hok P _ hP
  have apart : ∀ f, s.heap.objs.size ≤ f → f ∉ frs X.stack := fun f hf z => by
    rcases List.mem_cons.mp (I.stkSub _ z) with e | e
    · have q := I.lt
      rw [← e] at q
      exact absurd (Nat.lt_of_lt_of_le q hf) (Nat.lt_irrefl _)
    · exact I.nofs hf e
  cases hc : codeAmong pos ps.toList with
  | some cv =>
    obtain ⟨k, e, hco⟩ := ha pos cv hc
    subst e
    refine PySem.W.kla_makeFunctionHit (mg := X.mg) (c := c) (P := P) (ps := ps) (closure_ok hfree) I.ok.glob (I.mod.glob.keeps I.bk) hcode (TB.code.keeps I.bk) gP ht hc bT fun ctv h' tk hx hsz => ?_
    exact h h'.objs.size k ((X.mg "__name__").getD .none) ctv H _ (I.kept (h' := h'.push (PySem.W.kla_obj "<lambda>" (X.env.qual ++ "<lambda>") params body scope (cloFrom X.env.cells scope.names []) ((X.mg "__name__").getD .none) k ctv)) (t' := tk) fun b o e => Heap.get?_push_of_some _ (hx b o e)) (.inl rfl) (Heap.get?_push_size _ rfl) (I.hok.fresh hsz) (apart _ hsz) hco
  | none =>
    refine PySem.W.kla_makeFunction (mg := X.mg) (c := c) (P := P) (ps := ps) (closure_ok hfree) I.ok.glob (I.mod.glob.keeps I.bk) hcode (TB.code.keeps I.bk) gP ht hc TB.gP bT fun k ctv h' tk hx hge hlt hrec htb => ?_
    obtain ⟨k2, oc, vs, t, e2, hoc, hd, hv⟩ := hrec
    cases e2
    have big : s.heap.objs.size ≤ h'.objs.size := Nat.le_trans hge (Nat.le_of_lt hlt)
    have nK : H k = none := I.hok.fresh hge
    have I1 := inv_table (t' := tk) (more := #[rawInt pos.line, rawInt pos.col, .ref k]) (h' := h'.push (PySem.W.kla_obj "<lambda>" (X.env.qual ++ "<lambda>") params body scope (cloFrom X.env.cells scope.names []) ((X.mg "__name__").getD .none) k ctv)) I hP
      (fun b o hb e => Heap.get?_push_of_some _ (hx b o hb e)) (Heap.get?_push_of_some _ htb) hge ⟨oc, vs, t, Heap.get?_push_of_some _ hoc, hd, hv⟩
    have eL : (ps ++ #[rawInt pos.line, rawInt pos.col, .ref k]).toList = ps.toList ++ [rawInt pos.line, rawInt pos.col, .ref k] := by simp
    refine h h'.objs.size k ((X.mg "__name__").getD .none) ctv _ _ I1 (.inr ⟨k, _, nK, rfl, ?_, fun p' cv hcv => ?_⟩) (Heap.get?_push_size _ rfl) ?_ (apart _ big) upd_same
    · rw [eL]
      exact PySem.TriplesOk_snoc _ _ _ _ ht
    · rw [eL] at hcv
      exact among_app _ ht hcv
    · have n2 : h'.objs.size ≠ P := Nat.ne_of_gt (Nat.lt_of_lt_of_le (Heap.lt_size gP) big)
      rw [upd_ne (Nat.ne_of_gt hlt), upd_ne n2]
      exact I.hok.fresh big
end
/-- x() in the def that got the lambda; what it raises is wished for at the def's own slots -/
theorem pe_actS {X : Cx} {pins : List (Addr × Obj)} {σ : L2.St} {H : Hp} {s : Shared} {CXg : CXT} {Eg : XK} {Ng : List Str} {qg : Str} {sg : Scope} {g f k' : Addr} {cdg pm ctv : Value} {params : Arguments} {body : Expr} {scope : Scope} {k i : Nat} {a : Str} {pn : List (Addr × Obj)} {xe : Value → Shared → Prop} {W : WX} {tb : XK → TE} {p1 p2 : Pos}
    (I : Inv X pins σ H s) (L : LamS X.env.scope scope) (hf : s.heap.get? f = some (PySem.W.kla_obj "<lambda>" (X.env.qual ++ "<lambda>") params body scope (cloFrom X.env.cells scope.names []) pm k' ctv)) (hfn : H f = none) (hfr : f ∉ frs X.stack)
    (hbind : bindArgs (PySem.W.kla_fn "<lambda>" (X.env.qual ++ "<lambda>") params body scope (cloFrom X.env.cells scope.names []) pm (.ref k') ctv) ⟨[], []⟩ = pure [])
    (tk : Takes ((cxOf CXg X.prog X.w X.K X.mg X.base Ng qg sg g cdg X.A X.stack s H Eg).tr pn xe) W) (hr : Room (k + 1) (X.A.deeper (envOfC qg sg s.heap.objs.size g cdg)))
    (hbody : ∀ (A : Around) (outer : List Env) (s : Shared) (H : Hp) (E : XK), Room k (A.deeper (lamEnv X scope s.heap.objs.size f k')) → PE (lamCx X A outer s H E scope f k') body (tb E))
    (hN : Ng[i]? = some a) (hv : Vis sg a) (hd : (a == ("__debug__" : Str)) = false) (hcd : (a == ("__classdict__" : Str)) = false) :
    PE ((cxOf CXg X.prog X.w X.K X.mg X.base Ng qg sg g cdg X.A X.stack s H Eg).tr pn xe) (.Call (.Name a p1) [] [] p2)
      (fun σZ HZ Q => σZ[i]? = some (some (.ref f)) ∧ HZ k' = some (CodeO k' (X.env.qual ++ "<lambda>")) ∧ tb (fun cls d H' => W cls d σZ H') σ HZ Q) := by
  refine ⟨fun pinsZ sZ σZ HZ Q IZ ⟨hs, hc, ht⟩ => ?_⟩
  refine wpAny_Call_Name_kw (thn ((pe_var (pos := p1) (i := i) hN hv hd hcd).run pinsZ sZ σZ HZ (fun v H1 => v = .ref f ∧ H1 = HZ) IZ ⟨.ref f, hs, rfl, rfl⟩) fun u s1 ⟨v, H1, I1, r1, ev, eH⟩ => ?_)
  subst ev
  rw [eH] at I1
  obtain rfl : u = Value.ref f := r1
  have fo := I1.base.keep f _ hf hfn hfr (fun z => nomatch (show f ∈ ([] : List Addr) from z))
  refine PySem.W.callWith_F0 ⟨_, _, _, _, fo⟩ ?_
  obtain ⟨⟨oc, vs, t, hoc, hdc, hvc⟩, _, _⟩ := I1.hok k' _ hc
  have rc : codeAny (model X.prog X.w) (X.A.deeper (envOfC qg sg s.heap.objs.size g cdg)) (.call (.ref f) ⟨[], []⟩) (CR (L2.CX X.prog X.w) (envOfC qg sg s.heap.objs.size g cdg :: X.stack) X.prog X.w HZ s1 Q (fun cls d H' => W cls d σZ H')) s1 := by
    refine PySem.W.kla_callFunE hr.depth fo rfl L.co L.gen rfl ⟨k', oc, vs, t, rfl, hoc, hdc, hvc⟩ ?_
    rw [hbind]
    refine wpAny_pure (wpAny_newFunctionEnv (fun y hy => (L.own y hy).2) (fun y hy => absurd hy (by simp)) (fun h₁ hns hsb => ⟨I1.nolimit.fresh _ hsb, ?_⟩) L.kind)
    show codeAny _ _ (.expr body (lamEnv X scope s1.heap.objs.size f k')) _ _
    have J : Inv (lamCx X (X.A.deeper (envOfC qg sg s.heap.objs.size g cdg)) (envOfC qg sg s.heap.objs.size g cdg :: X.stack) s1 HZ (fun cls d H' => W cls d σZ H') scope f k') [] σ HZ { s1 with heap := h₁, toks := s1.toks + ([] : List (Str × Value)).length } :=
      lam_start2 I L I1.env0 hr.hd I1.base hns fun b o e => hsb.extBut b o (Nat.ne_of_lt (Heap.lt_size e)) (Heap.get?_push_of_some _ e)
    refine PySem.W.kla_codeExpr (wpAny_mono ((hbody _ _ s1 HZ _ (hr.deeper _)).run [] _ _ HZ Q J ht) (fun v s' hq => ?_) fun e s' hq => hq)
    obtain ⟨w', H', J', rv, q⟩ := hq
    exact ⟨w', H', J'.os, J'.bare, J'.base, J'.hok, rv, q⟩
  refine wpAny_call (codeAny_mono rc fun r s' hq => ?_)
  cases r with
  | error e => exact tk e s' (XE.of_call I1 (fun _ _ _ h => h) hq)
  | ok fl =>
    cases fl with
    | ret u => exact I1.after hq
    | next => exact False.elim hq
    | brk => exact False.elim hq
    | cont => exact False.elim hq
/-- the def that calls what it got: what it makes of the lambda's reading -/
def GivesS (X : Cx) (k : Nat) (Ng : List Str) (x : Str) (sg : Scope) (g : Addr) (cdg : Value) (bg : List Stmt) (a : Str) (q : Str) (TT : (XK → Hp → VK → Prop) → Hp → VK → Prop) : Prop :=
  ∀ (f k' : Addr) (s : Shared) (H : Hp) (Q : VK) (tl : XK → Hp → VK → Prop), Room (k + 1) (X.A.deeper (envOfC x sg s.heap.objs.size g cdg)) →
    (∀ (W : WX) (pn : List (Addr × Obj)) (xe : Value → Shared → Prop) (p1 p2 : Pos), Takes ((cxOf C8.CX0 X.prog X.w X.K X.mg X.base Ng x sg g cdg X.A X.stack s H C8.E0).tr pn xe) W →
      PE ((cxOf C8.CX0 X.prog X.w X.K X.mg X.base Ng x sg g cdg X.A X.stack s H C8.E0).tr pn xe) (.Call (.Name a p1) [] [] p2) (fun σZ HZ Q => σZ[0]? = some (some (.ref f)) ∧ HZ k' = some (CodeO k' q) ∧ tl (fun cls d H' => W cls d σZ H') HZ Q)) →
    H k' = some (CodeO k' q) → TT tl H Q →
    ∃ t, PSs (cxOf C8.CX0 X.prog X.w X.K X.mg X.base Ng x sg g cdg X.A X.stack s H C8.E0).nox bg t ∧ t { nx := fun _ H' => Q .non H', rt := Q } (L2.start Ng [.ref f]) H
def tLamR (P : Addr) (q : Str) (TT : (XK → Hp → VK → Prop) → Hp → VK → Prop) (t : XK → TE) : TE := fun σ H Q => ∃ ps, TabE H P q ps ∧ ∀ H1, LamTo H P q ps H1 → TT (fun E H' Q' => t E σ H' Q') H1 Q
section
variable {X : Cx}
theorem pe_lamR {TT : (XK → Hp → VK → Prop) → Hp → VK → Prop} {x a : Str} {g c P : Addr} {k : Nat} {pg : Arguments} {bg : List Stmt} {sg : Scope} {dV kV doc pm cdv ct oc : Value} {an od : Option Addr} {osl : Array (Option Value)} {Ng : List Str}
    {params : Arguments} {body : Expr} {scope : Scope} {t : XK → TE} {p lpos pos : Pos} (hg : Gl X x) (hm : X.mg x = some (.ref g)) (hk : PySem.W.keepIn X.K (.ref g) = true)
    (lk : X.K.lookup g = some ⟨oc, od, .func (PySem.W.fnOf x x pg bg sg dV kV doc pm an cdv ct), osl⟩) (hcg : PySem.W.codeIn X.K cdv x = true) (hb : L2.Binds X.K (PySem.W.fnOf x x pg bg sg dV kV doc pm an cdv ct) [a] []) (Sg : FnScope Ng [a] sg) (hNg : Ng[0]? = some a) (hva : Vis sg a)
    (hG : GivesS X k Ng x sg g cdv bg a (X.env.qual ++ "<lambda>") TT)
    (TB : TabB X.base X.mg c P) (hcode : X.env.code = .ref c) (hr : Room (k + 2) X.A) (L : LamS X.env.scope scope) (hdef : defaultsOf params X.env = ([], []))
    (hbind : ∀ (q : Str) (cl : List (Str × Addr)) (pm cv ctv : Value), bindArgs (PySem.W.kla_fn "<lambda>" q params body scope cl pm cv ctv) ⟨[], []⟩ = pure [])
    (hbody : ∀ (A : Around) (outer : List Env) (s : Shared) (H : Hp) (E : XK) (f k' : Addr), Room k (A.deeper (lamEnv X scope s.heap.objs.size f k')) → PE (lamCx X A outer s H E scope f k') body (t E))
    (hdb : (x == ("__debug__" : Str)) = false) (hd : (a == ("__debug__" : Str)) = false) (hcd : (a == ("__classdict__" : Str)) = false) :
    PE X (.Call (.Name x p) [.Lambda params body scope lpos] [] pos) (tLamR P (X.env.qual ++ "<lambda>") TT t) := by
  refine ⟨fun pins s σ H Q I h => ?_⟩
  obtain ⟨ps, hT, h⟩ := h
  refine wpAny_Call_Name_kw (ld_glob I hg hm ?_ hdb)
  refine PySem.W.callWith_K (h₀ := X.base) I.ok.mod.kin hk ?_ (by rfl) (by rfl)
  show wpAny _ _ (spliced ((false, eval (.Lambda params body scope lpos) X.env) :: backTo pos (starEach [] X.env))) _ _ s
  refine Calls.spliced_cons (lam_made I TB hcode hT hdef (L.has I.ok) fun f k' pm' ctv H1 s' I1 to hf hfn hfr hco => Calls.spliced_nil ⟨I1.kIn, ?_⟩)
  have rc : codeAny (model X.prog X.w) X.A (.call (.ref g) ⟨[.ref f], []⟩) (CR C8.CX0 X.stack X.prog X.w H1 s' Q C8.E0) s' := by
    refine run_ofS (N := Ng) (ps := [a]) (us := [.ref f]) (vs := [.ref f]) lk hcg Sg hr I1.env0 (hb s' [.ref f] I1.kIn rfl) (.cons rfl .nil) rfl fun hr' => ?_
    obtain ⟨t', ht', hq'⟩ := hG f k' s' H1 Q (fun E H' Q' => t E σ H' Q') hr' (fun W pn xe p1 p2 tk => pe_actS (i := 0) I1 L hf hfn hfr (hbind _ _ _ _ _) tk hr' (fun A outer s H E hr2 => hbody A outer s H E f k' hr2) hNg hva hd hcd) hco (h H1 to)
    exact ⟨t', ht'.nox, hq'⟩
  refine wpAny_call (codeAny_mono rc fun r s2 hq => ?_)
  cases r with
  | error e => exact (show False from hq).elim
  | ok fl =>
    cases fl with
    | ret u => exact I1.after hq
    | next => exact False.elim hq
    | brk => exact False.elim hq
    | cont => exact False.elim hq
end
end Ev

set_option Elab.async false
set_option linter.all false
set_option maxRecDepth 100000
set_option maxHeartbeats 2000000
set_option autoImplicit false
namespace Ev
open PySem PySem.Spec PyProof.Rows L2
/-- the object at a is an error of the class cls, without a dict -/
def ErrO (cls : Value) (a : Addr) : HO := .ext fun h => ∃ (oe : Obj) (vs : Array Value), h.get? a = some oe ∧ oe.cls = cls ∧ oe.dict = none ∧ oe.data = .fields vs
theorem errO_ok {P : Program} {w : World} {H : Hp} {h : Heap} {a : Addr} {cls : Value} {oe : Obj} {vs : Array Value} (e : h.get? a = some oe) (z : Zc cls none oe) (d : oe.data = .fields vs) : ObjOk P w H h a (ErrO cls a) :=
  ⟨⟨oe, vs, e, z.1, z.2, d⟩, ⟨oe, e⟩, fun h1 h2 ⟨o, us, a1, a2⟩ k => ⟨o, us, k o a1, a2⟩⟩
section
variable {X : Cx} {pins : List (Addr × Obj)} {σ : L2.St} {H : Hp} {s : Shared}
/-- an object that is new since the entry is told from now on -/
theorem inv_track {a : Addr} {o : HO} {ob : Obj} {vs : Array Value} (I : Inv X pins σ H s) (h0 : X.s_0.heap.get? a = none) (hn : H a = none) (hg : s.heap.get? a = some ob) (hd : ob.data = .fields vs) (nP : ∀ p ∈ X.pn ++ pins, p.1 ≠ a)
    (new : ObjOk X.prog X.w (upd H a o) s.heap a o) : Inv X pins σ (upd H a o) s := by
  have ne : ∀ b u, H b = some u → b ≠ a := fun b u e => ne_of_none e hn
  have neC : ∀ (c : Addr) (v : Option Value), s.heap.IsCell c v → c ≠ a := fun c v ⟨q, e, d⟩ z => by
    rw [z, hg] at e
    cases e
    rw [hd] at d
    cases d
  have neL : X.env.locals ≠ a := fun z => by
    obtain ⟨m, ⟨q, es, ep, e, d, _⟩, _⟩ := I.loc
    rw [z, hg] at e
    cases e
    rw [hd] at d
    cases d
  refine ⟨I.ok, I.os, I.bare, ⟨I.base.keep, I.base.slot, fun b u e1 e2 e3 => ?_, I.base.there, fun b xs e => ?_, fun b u v e => ?_, fun b ps e => ?_⟩, I.loc, I.cell, ?_, fun y c e => ?_, fun p hp => ?_, fun b u e => ?_, I.len⟩
  · have : b ≠ a := fun z => by rw [z, h0] at e1; cases e1
    rw [upd_ne this]
    exact I.base.free b u e1 e2 e3
  · have q := I.base.tups b xs e
    rw [upd_ne (ne b _ q)]
    exact q
  · have q := I.base.frzs b u v e
    rw [upd_ne (ne b _ q)]
    exact q
  · obtain ⟨more, q⟩ := I.base.tbls b ps e
    exact ⟨more, by rw [upd_ne (ne b _ q)]; exact q⟩
  · rw [upd_ne neL]
    exact I.free
  · obtain ⟨v, q⟩ := I.cell y c e
    rw [upd_ne (neC c v q)]
    exact I.freeC y c e
  · obtain ⟨q1, q2, q3⟩ := I.pin p hp
    exact ⟨q1, by rw [upd_ne (nP p hp)]; exact q2, q3⟩
  · by_cases hb : b = a
    · rw [hb, upd_same] at e
      cases e
      rw [hb]
      exact new
    · rw [upd_ne hb] at e
      exact (I.hok b u e).stay (fun _ _ _ q => q) (fun c q => by rw [upd_ne (ne c _ q)]; exact q) fun c xs q => by rw [upd_ne (ne c _ q)]; exact q
end
/-- what the clause wishes: the error is one of its class and has no dict; behind the suite it is known -/
def wKept (K : PySem.W.Frag) (c : Value) (i : Nat) (ts : Addr → Value → TS) (D : Ends) : WX := fun cls d σ H => d = none ∧ PySem.W.exmOne K cls c = some true ∧
  ∀ a, H a = none → ts a cls { nx := fun σ' H' => H' a = none → D.nx (σ'.set i none) (upd H' a (ErrO cls a)), rt := fun _ _ => False, bk := fun _ _ => False, ct := fun _ _ => False } (σ.set i (some (.ref a))) H
section
variable {X : Cx} {x n : Str} {c : Value} {i : Nat} {body suite : List Stmt} {b₀ : Stmt} {np pos pos' : Pos} {tb : WX → TS} {ts : Addr → Value → TS}
theorem ps_tryKept (hs : X.stack = X.env :: X.outer) (hf : X.env.frame = some X.env.locals) (hex : X.ex = []) (hN : X.N.Nodup) (hi : X.N[i]? = some n) (hln : X.env.kindOf n = some .local) (hc : Names X x c)
    (hb : ∀ (W : WX) (pn : List (Addr × Obj)) (xe : Value → Shared → Prop), Takes (X.tr pn xe) W → PassesOwn (model X.prog X.w) X.A X.env xe → PSs (X.tr pn xe) body (tb W))
    (hsu : ∀ (a : Addr) (oe : Obj) (cls : Value) (pn : List (Addr × Obj)), PSs (X.suite a ((a, oe) :: pn)) (b₀ :: suite) (ts a cls)) :
    PS X (.Try body [.ExceptHandler (some (.Name x np)) (some n) (b₀ :: suite) pos'] [] [] pos) (fun D σ H => tb (wKept X.K c i ts D) D σ H) := by
  refine ⟨fun pins s σ H D I h => ?_⟩
  have ok := I.ok
  have hfr : X.A.frames = some (X.env :: X.outer) := by rw [ok.frames, hs]
  have hloc : Loc X.env.scope n := .inl hln
  refine wpAny_Try_except ?_
  refine wpAny_mono ((hb (wKept X.K c i ts D) (X.pn ++ pins) (fun e s₁ => wpAny (model X.prog X.w) X.A (noteFrame e X.env) (fun _ s₂ => wpAny (model X.prog X.w) X.A (setFlight e none) (fun _ s₃ =>
    wpAny (model X.prog X.w) X.A (handleBy e X.env [.ExceptHandler (some (.Name x np)) (some n) (b₀ :: suite) pos']) (SP X pins D) X.xe s₃) X.xe s₂) X.xe s₁) (fun u s' xx => ?_) PassesOwn.looking).run [] s σ H D (I.toTry _) h) (fun f s1 hsp => ?_) (fun e s1 he => he)
  · obtain ⟨a, B, sI, pins', σ', H', cls, d, rfl, J', nb, up, sky, na, os, ag, ed, hb1, hyes⟩ := xx
    subst ed
    have J : Inv X pins σ' H' sI := J'.ofTry ok
    have sky2 : Sky B (X.env :: X.outer) a (Zc cls none) X.env.locals s'.heap := by rw [← hs]; exact sky
    show wpAny (model X.prog X.w) X.A (noteFrame (.ref a) X.env) _ _ _
    refine Sky.land Zc.steady hfr hf sky2 fun h3 fl3 up3 => ?_
    have J3 : Inv X pins σ' H' { s' with heap := h3 } := J.landed nb fl3.1 (up.trans up3) os ag
    obtain ⟨oe3, vs3, he3, hz3, hd3⟩ := fl3.there
    have nfr : a ∉ frs (X.env :: X.outer) := fun hm => by
      obtain ⟨_, o', e', hnf⟩ := fl3.2.2.1.mem hm
      rw [he3] at e'
      cases e'
      exact hnf _ hd3
    have noI : sI.heap.get? a = none := by
      cases q : sI.heap.get? a with
      | none => rfl
      | some o =>
        have z := nb a o q (by show a ∉ frs X.stack; rw [hs]; exact nfr)
        rw [fl3.2.1] at z
        cases z
    have no0 : X.s_0.heap.get? a = none := by
      cases q : X.s_0.heap.get? a with
      | none => rfl
      | some o =>
        obtain ⟨o', z⟩ := J.base.there a o q (by rw [hex]; simp)
        rw [noI] at z
        cases z
    have noP : ∀ p ∈ X.pn ++ pins, p.1 ≠ a := fun p hp z => by
      have q := (J.pin p hp).1
      rw [z, noI] at q
      cases q
    have nL : a ≠ X.env.locals := fun z => nfr (List.mem_filterMap.mpr ⟨X.env, List.mem_cons_self, by rw [hf, z]⟩)
    have nF : a ∉ X.fs := fun hm => by
      obtain ⟨e, he, q⟩ := List.mem_filterMap.mp hm
      exact nfr (List.mem_filterMap.mpr ⟨e, List.mem_cons_of_mem _ he, q⟩)
    have S3 := J3.suite he3 hd3 na nL nF
    refine wpAny_handleBy_cons (codeAny_handlers_test ?_) (by intro q; cases q)
    have LT : PySem.W.Looks (model X.prog X.w) h3 (typeOf (.ref a)) cls := fun A Q E s k q => wpAny_typeOf_ref (k _ _ he3) (by rw [hz3.1]; exact q)
    have LM := PySem.W.exm_one (M := model X.prog X.w) (J3.kIn) LT hb1
    have test : ∀ {Q : Value → Shared → Prop} {E : Value → Shared → Prop}, Q c { s' with heap := h3 } → wpAny (model X.prog X.w) (X.A.mark (some (.ref a))) (eval (.Name x np) X.env) Q E { s' with heap := h3 } := fun {Q E} q => by
      obtain ⟨hg, hdbg, hm | ⟨hm, hv, hnn⟩⟩ := hc
      · exact ld_glob (X := X.suite a ((a, oe3) :: (X.pn ++ pins))) S3 hg hm q hdbg
      · exact ld_blt (X := X.suite a ((a, oe3) :: (X.pn ++ pins))) S3 hg hm hv q hnn hdbg
    refine test (LM.here ?_)
    refine codeAny_handlers_suite_as ?_
    refine HandSPX.lands_againZ fl3 fun h4 fl4 up4 => ?_
    have J4 : Inv X pins σ' H' { s' with heap := h4 } := J.landed nb fl4.1 ((up.trans up3).trans up4) os ag
    obtain ⟨oe4, vs4, he4, hz4, hd4⟩ := fl4.there
    have S4 := J4.suite he4 hd4 na nL nF
    refine store_ok (X := X.suite a ((a, oe4) :: (X.pn ++ pins))) (v := .ref a) S4 hN hi hloc rfl (fun s5 S5 => ?_) (.inr hln)
    refine wpAny_mono ((hsu a oe4 cls (X.pn ++ pins)).run [] s5 _ H' _ S5 (hyes a na)) (fun f s6 hsp => ?_) (fun _ _ z => False.elim z)
    cases f with
    | next =>
      obtain ⟨σ6, H6, S6, q6⟩ := hsp
      have pin := S6.pin (a, oe4) (List.mem_append.mpr (.inl List.mem_cons_self))
      have J6 : Inv X pins σ6 H6 s6 := S6.unsuite ok
      have J7 := inv_track (o := ErrO cls a) J6 no0 pin.2.1 pin.1 hd4 noP (errO_ok pin.1 hz4 hd4)
      exact gone_ok J7 hN hi hln fun s8 J8 => ⟨_, _, J8, q6 pin.2.1⟩
    | brk =>
      obtain ⟨σ6, H6, S6, q6⟩ := hsp
      exact q6.elim
    | cont =>
      obtain ⟨σ6, H6, S6, q6⟩ := hsp
      exact q6.elim
    | ret u =>
      obtain ⟨v6, σ6, H6, S6, r6, q6⟩ := hsp
      exact q6.elim
  · cases f with
    | next =>
      obtain ⟨σ', H', J', q⟩ := hsp
      exact wpAny_execs_nil ⟨σ', H', J'.ofTry ok, q⟩
    | brk =>
      obtain ⟨σ', H', J', q⟩ := hsp
      exact ⟨σ', H', J'.ofTry ok, q⟩
    | cont =>
      obtain ⟨σ', H', J', q⟩ := hsp
      exact ⟨σ', H', J'.ofTry ok, q⟩
    | ret u =>
      obtain ⟨v, σ', H', J', r, q⟩ := hsp
      exact ⟨v, σ', H', J'.ofTry ok, r, q⟩
end
/-- isinstance(e, c), e a known error -/
def rIsX (K : PySem.W.Frag) : List V → Hp → VK → Prop := fun xs H Q => ∃ (a D : Addr) (c : V) (cv : Value) (b : Bool), xs = [.ref a, c] ∧ H a = some (ErrO (.ref D) a) ∧ ExcC K D ∧ (∀ u, RelV c u → u = cv) ∧ PySem.W.kitOne K (.ref D) cv = some b ∧ Q (.bl b) H
theorem call_isX {X : Cx} : CallR X (.builtin "isinstance") (rIsX X.K) := by
  intro pins s σ H xs us Q I r h
  obtain ⟨a, D, c, cv, b, rfl, hE, C, hcv, e, q⟩ := h
  cases r with
  | cons rx rr =>
    cases rr with
    | cons rt rr =>
      cases rr
      cases rx
      have ec := hcv _ rt
      subst ec
      obtain ⟨⟨oe, vs, h1, h2, h3, h4⟩, _, _⟩ := I.hok a _ hE
      have J : PySem.W.InstAt s.heap a oe D none := by
        obtain ⟨oc, od, oda, osl⟩ := oe
        dsimp only at h2 h3 h4
        subst h2 h3 h4
        exact ⟨h1, rfl, rfl, trivial⟩
      exact PySem.W.kia_one (PySem.W.handS_kitx_exc C.hg C.hk C.hs C.hd C.ha C.hn C.ht C.hm) I.kIn J e (fun z => nomatch z) fun tk => ⟨.bl b, H, I.kept (t' := tk) fun _ _ z => z, rfl, q⟩
end Ev

set_option Elab.async false
set_option linter.all false
set_option maxRecDepth 100000
set_option maxHeartbeats 2000000
set_option autoImplicit false
namespace Ev
open PySem PySem.Spec PyProof.Rows L2
section
variable {X : Cx} {pins : List (Addr × Obj)} {σ : L2.St} {H : Hp} {s : Shared} {a c : Addr} {kvs more : List (Key × V)} {A : Around} {E : Value → Shared → Prop}
theorem d_update {Q : Value → Shared → Prop} (I : Inv X pins σ H s) (e : H a = some (.dK kvs)) (e2 : Rd H c (.dK more)) (ne : a ≠ c) (hl : kvs.length + more.length ≤ sizeLine) (h : ∀ s', Inv X pins σ (upd H a (.dK (mergeK kvs more))) s' → Q .none s') :
    wpAny (model X.prog X.w) A (call (.builtin "dict.update") [.ref a, .ref c]) Q E s := by
  obtain ⟨z, hd, vs, rel, dd⟩ := dk_of I.hok e
  obtain ⟨z2, hd2, us, rel2, dd2⟩ := dk_rd I.hok e2
  refine call_meetsIn PySem.F.slot_dict_update dd.typeIs PySem.F.entry_dict_update (PySem.F.args_dict_update_2 _ _) (meets_dict_update (mixKind X.prog X.w) a c ne hd2) ⟨vs, us, dd, dd2, by rw [← rel.length, ← rel2.length]; exact hl, fun h' dd' _ hs => h _ ?_⟩
  have he : ∃ q, h'.get? a = some q := let ⟨q, _, _, hq, _⟩ := dd'; ⟨q, hq⟩
  exact d_write (t' := s.toks) I (by rw [e]; exact True.intro) hs he (dk_new (Nat.le_trans (length_mergeK more kvs) hl) hd (KV.merge rel2 rel) dd')
end
def tUpd (td ty : TE) : TE := fun σ H Q => td σ H fun x H1 => ∃ a, x = .ref a ∧ IsD H1 a ∧ ty σ H1 fun y H2 => ∃ c kvs more, y = .ref c ∧ H2 a = some (.dK kvs) ∧ Rd H2 c (.dK more) ∧ a ≠ c ∧ kvs.length + more.length ≤ sizeLine ∧ Q .non (upd H2 a (.dK (mergeK kvs more)))
section
variable {X : Cx} {o e : Expr} {td ty : TE} {apos cpos : Pos}
theorem pe_upd (ho : PE X o td) (he : PE X e ty) (m : M1 X o "update" apos e cpos) : PE X (.Call (.Attribute o "update" apos) [e] [] cpos) (tUpd td ty) := by
  refine ⟨fun pins s σ H Q I h => ?_⟩
  refine wpAny_Call_method m.base m.few m.line PySem.F.plainAttrs_dict PySem.F.slot_dict_update PySem.F.type_dict_update (thn (ho.run pins s σ H _ I h) fun u s1 ⟨x, H1, I1, rx, a, ex, d, q1⟩ => ?_)
  subst ex
  obtain rfl : u = Value.ref a := rx
  obtain ⟨t1, t2, _⟩ := isD_at I1 d
  refine ⟨t1, t2, ?_⟩
  rw [m.trees]
  refine Calls.callWith_builtin rfl (Calls.evalArgs_plain (Calls.spliced_cons (thn (he.run pins s1 σ H1 _ I1 q1) fun iv s2 ⟨y, H2, I2, ry, c, kvs, more, ey, ea, ec, ne, hl, q2⟩ => Calls.spliced_nil ?_)))
  subst ey
  obtain rfl : iv = Value.ref c := ry
  exact d_update I2 ea ec ne hl fun s3 I3 => ⟨.non, _, I3, rfl, q2⟩
end
/-- what is known of the class of the error whose answer is j -/
structure ResC (K : PySem.W.Frag) (C : Str → Addr) (CT : Addr) (j : Str) : Prop where
  mem : j ∈ resL
  ec : ExcC K (C j)
  kit : ∀ y ∈ resL, PySem.W.kitOne K (.ref (C j)) (.ref (C y)) = some (decide (y = j))
  ve : PySem.W.kitOne K (.ref (C j)) (.type "ValueError") = some true
  exm : PySem.W.exmOne K (.ref (C j)) (.ref CT) = some true
abbrev Gr (H H' : Hp) : Prop := ∀ b o, H b = some o → H' b = some o
def kvF (j : Str) (l : List Str) : List (Key × V) := l.map fun y => (.inr y, .bl (decide (y = j)))
theorem mergeK_app : ∀ (more kvs : List (Key × V)), ((kvs ++ more).map (·.1)).Nodup → mergeK kvs more = kvs ++ more
  | [], kvs, _ => by rw [List.append_nil]; rfl
  | p :: r, kvs, h => by
    have hn : valV kvs p.1 = none := by
      cases q : valV kvs p.1 with
      | none => rfl
      | some v =>
        exfalso
        unfold valV at q
        obtain ⟨kv, h1, h2⟩ := Option.map_eq_some_iff.mp q
        have m1 := List.mem_of_find?_eq_some h1
        have e1 := List.find?_some h1
        simp only [decide_eq_true_eq] at e1
        rw [List.map_append, List.map_cons] at h
        exact (List.nodup_append.mp h).2.2 kv.1 (List.mem_map.mpr ⟨kv, m1, rfl⟩) p.1 List.mem_cons_self e1
    show mergeK (putK kvs p.1 p.2) r = _
    rw [putK_new _ hn, mergeK_app r _ (by rw [List.append_assoc]; exact h), List.append_assoc]
    rfl
theorem kvF_nodup {j : Str} {l : List Str} (h : l.Nodup) : ((kvF j l).map (·.1)).Nodup := by
  unfold kvF
  rw [List.map_map]
  exact List.Pairwise.map _ (fun a b hab e => hab (Sum.inr.inj e)) h
theorem kvF_app (j : Str) (l r : List Str) : kvF j (l ++ r) = kvF j l ++ kvF j r := by unfold kvF; rw [List.map_append]
theorem kvF_merge {j : Str} {l r : List Str} (h : (l ++ r).Nodup) : mergeK (kvF j l) (kvF j r) = kvF j (l ++ r) := by
  rw [mergeK_app _ _ (by rw [← kvF_app]; exact kvF_nodup h), kvF_app]
abbrev tW (x : Str) : TE := tC (.str x)
def tIsC (K : PySem.W.Frag) (c : V) : TE := tCB (rIsX K) (tCons (tVar 1) (tCons (tC c) tNil))
def prs (K : PySem.W.Frag) (C : Str → Addr) (l : List Str) : List (TE × TE) := l.map fun y => (tW y, tIsC K (.ref (C y)))
section
variable {K : PySem.W.Frag} {C : Str → Addr} {CT : Addr} {j : Str} {σ : L2.St} {a : Addr}
theorem isC_read (R : ResC K C CT j) {y : Str} (hy : y ∈ resL) (hσ : σ[1]? = some (some (.ref a))) {H : Hp} (hE : H a = some (ErrO (.ref (C j)) a)) {Q : VK} (q : Q (.bl (decide (y = j))) H) : tIsC K (.ref (C y)) σ H Q :=
  ⟨.ref a, hσ, a, C j, .ref (C y), .ref (C y), _, rfl, hE, R.ec, fun u r => r, R.kit y hy, q⟩
theorem prs_read (R : ResC K C CT j) (hσ : σ[1]? = some (some (.ref a))) {H : Hp} (hE : H a = some (ErrO (.ref (C j)) a)) : ∀ (l : List Str) (Q : List (V × V) → Hp → Prop), (∀ y ∈ l, y ∈ resL) → Q ((kvF j l).map fun kv => (kV kv.1, kv.2)) H → tPairs (prs K C l) σ H Q
  | [], Q, _, q => q
  | y :: l, Q, h, q => isC_read (y := y) R (h y List.mem_cons_self) hσ hE (prs_read R hσ hE l _ (fun z hz => h z (List.mem_cons_of_mem _ hz)) q)
theorem disp_read (R : ResC K C CT j) (hσ : σ[1]? = some (some (.ref a))) {H : Hp} (hE : H a = some (ErrO (.ref (C j)) a)) {l : List Str} (hl : ∀ y ∈ l, y ∈ resL) (hn : l.Nodup) (h15 : l.length ≤ 15) {Q : VK} (q : ∀ p, H p = none → Q (.ref p) (upd H p (.dK (kvF j l)))) : tDisp (prs K C l) σ H Q := by
  intro p hp
  have ne : a ≠ p := ne_of_none hE hp
  refine prs_read R hσ (by rw [upd_ne ne]; exact hE) l _ hl ⟨upd_same, kvF j l, rfl, by unfold kvF; rw [List.length_map]; exact h15, ?_⟩
  have e : mergeK [] (kvF j l) = kvF j l := by
    have := mergeK_app (kvF j l) [] (by rw [List.nil_append]; exact kvF_nodup hn)
    rw [List.nil_append] at this
    exact this
  rw [e, upd_upd]
  exact q p hp
/-- where the walk stands: the dict at d holds the answers of l -/
structure At (H0 : Hp) (j : Str) (a d : Addr) (l : List Str) (C : Str → Addr) (H : Hp) : Prop where
  gr : Gr H0 H
  new : H0 d = none
  ob : H d = some (.dK (kvF j l))
  er : H a = some (ErrO (.ref (C j)) a)
theorem upd_read (R : ResC K C CT j) (hσ : σ[1]? = some (some (.ref a))) {d : Addr} (hd : σ[4]? = some (some (.ref d))) {H0 H : Hp} {l r : List Str} (x : At H0 j a d l C H) (hl : ∀ y ∈ r, y ∈ resL) (hn : (l ++ r).Nodup) (h15 : r.length ≤ 15) (h17 : l.length ≤ 17) {D : Ends} (q : ∀ H', At H0 j a d (l ++ r) C H' → D.nx σ H') :
    tDrop (tUpd (tVar 4) (tDisp (prs K C r))) D σ H := by
  refine ⟨.ref d, hd, d, rfl, .inl ⟨_, .inl x.ob⟩, disp_read R hσ x.er hl (List.nodup_append.mp hn).2.1 h15 fun p hp => ?_⟩
  have nd : d ≠ p := ne_of_none x.ob hp
  have na : a ≠ p := ne_of_none x.er hp
  have nad : a ≠ d := ne_of x.er x.ob (by unfold ErrO; intro z; cases z)
  refine ⟨p, kvF j l, kvF j r, rfl, by rw [upd_ne nd]; exact x.ob, .inl upd_same, nd, ?_, ?_⟩
  · unfold kvF
    rw [List.length_map, List.length_map, sizeLine_eq]
    omega
  · rw [kvF_merge hn]
    refine q _ ⟨fun b o e => ?_, x.new, upd_same, by rw [upd_ne nad, upd_ne na]; exact x.er⟩
    have h1 := x.gr b o e
    rw [upd_ne (ne_of_none e x.new), upd_ne (ne_of_none h1 hp)]
    exact h1
def tNames (K : PySem.W.Frag) : TS := tLock (tAsg (tLc (iKeys (tVar 4)) (gName 6) (fun σ H Q => tDGet (tVar 4) (tVar 6) σ H fun x H' => ∃ k, TruV K x H' k ∧ Q k H') (tVar 6) [6]) (gName 5))
theorem valV_kvF {j : Str} : ∀ {l : List Str} {y : Str}, y ∈ l → valV (kvF j l) (.inr y) = some (.bl (decide (y = j)))
  | x :: l, y, h => by
    by_cases e : x = y
    · subst e
      exact valV_pos (p := (Sum.inr x, V.bl (decide (x = j)))) rfl
    · have hy : y ∈ l := by
        rcases List.mem_cons.mp h with q | q
        · exact absurd q.symm e
        · exact q
      show valV ((Sum.inr x, V.bl (decide (x = j))) :: kvF j l) (.inr y) = _
      rw [valV_neg (fun z => e (Sum.inr.inj z))]
      exact valV_kvF hy
theorem names_read (R : ResC K C CT j) {d : Addr} {v0 v1 v2 : V} {H0 H : Hp} (x : At H0 j a d resL C H) {D : Ends}
    (q : ∀ H' p, At H0 j a d resL C H' → H' p = some (.lst [.str j]) → D.nx [some v0, some v1, some v2, none, some (.ref d), some (.ref p), none] H') :
    tNames K D [some v0, some v1, some v2, none, some (.ref d), none, none] H := by
  refine ⟨d, .dK (kvF j resL), x.ob, True.intro, fun od => ?_⟩
  refine ⟨.ref d, rfl, d, od, rfl, .inl ⟨kvF j resL, upd_same, fun p hp => ?_⟩⟩
  have nad : a ≠ d := ne_of x.er x.ob (by unfold ErrO; intro z; cases z)
  have ndp : d ≠ p := fun e => by rw [← e, upd_same] at hp; cases hp
  have hp0 : H p = none := by rw [upd_ne (Ne.symm ndp)] at hp; exact hp
  have nap : a ≠ p := ne_of_none x.er hp0
  have hlen : (kvF j resL).length = 17 := by unfold kvF; rw [List.length_map]; rfl
  -- at the i-th turn
  refine ⟨fun i m Hc => m = 17 - i ∧ i ≤ 17 ∧ (∀ b, b ≠ d → b ≠ p → Hc b = H b) ∧ Hc d = some (.frz od (.dK (kvF j resL))) ∧ Hc p = some (.lst (((resL.take i).filter fun y => decide (y = j)).map V.str)), ⟨17, rfl, Nat.zero_le _, fun b b1 b2 => by rw [upd_ne b2, upd_ne b1], by rw [upd_ne ndp, upd_same], upd_same⟩, ?_⟩
  rintro i m Hc ⟨rfl, hi, h1, h2, h3⟩
  by_cases hlt : i < 17
  · refine .inr ⟨⟨h2, by rw [hlen]; exact hlt⟩, fun Hn => i + 1 ≤ 17 ∧ (∀ b, b ≠ d → b ≠ p → Hn b = H b) ∧ Hn d = some (.frz od (.dK (kvF j resL))) ∧ Hn p = some (.lst (((resL.take (i + 1)).filter fun y => decide (y = j)).map V.str)), fun H' h => ⟨17 - (i + 1), by omega, rfl, h⟩, fun y H' hy => ?_⟩
    obtain ⟨e, k, v, hk, ey⟩ := hy
    subst e ey
    have hr : resL[i]? = some resL[i] := List.getElem?_eq_getElem (by show i < 17; exact hlt)
    generalize hz : resL[i] = z at hr
    have hk2 : (kvF j resL)[i]? = some (.inr z, .bl (decide (z = j))) := by
      unfold kvF
      rw [List.getElem?_map, hr]
      rfl
    rw [hk2] at hk
    cases hk
    have hm : z ∈ resL := List.mem_of_getElem? hr
    have tk : resL.take (i + 1) = resL.take i ++ [z] := by rw [List.take_add_one, hr]; rfl
    refine ⟨rfl, .ref d, rfl, .str z, rfl, d, .bl (decide (z = j)), rfl, .inl ⟨kvF j resL, .inr z, .inr ⟨od, h2⟩, rfl, (valV_kvF hm).symm⟩, decide (z = j), rfl, ?_⟩
    by_cases hzj : z = j
    · rw [decide_eq_true hzj]
      refine iteT ⟨.str z, rfl, _, h3, ?_, by omega, fun b b1 b2 => by rw [upd_ne b2]; exact h1 b b1 b2, by rw [upd_ne ndp]; exact h2, ?_⟩
      · rw [List.length_map, sizeLine_eq]
        have := List.length_filter_le (fun y => decide (y = j)) (resL.take i)
        rw [List.length_take] at this
        omega
      · rw [upd_same, tk, List.filter_append, List.map_append]
        have : [z].filter (fun y => decide (y = j)) = [z] := by simp [hzj]
        rw [this]
        rfl
    · rw [decide_eq_false hzj]
      refine iteF ⟨by omega, h1, h2, ?_⟩
      have : [z].filter (fun y => decide (y = j)) = [] := by simp [hzj]
      rw [tk, List.filter_append, this, List.append_nil]
      exact h3
  · have e : i = 17 := by omega
    subst e
    refine .inl ⟨⟨h2, by rw [hlen]; exact Nat.le_refl _⟩, h2, ?_⟩
    have fl : ((resL.take 17).filter fun y => decide (y = j)) = [j] := by
      have := R.mem
      simp only [resL, List.mem_cons, List.not_mem_nil, or_false] at this
      rcases this with e | e | e | e | e | e | e | e | e | e | e | e | e | e | e | e | e <;> subst e <;> decide
    rw [fl] at h3
    refine q _ p ⟨fun b o e => ?_, x.new, upd_same, ?_⟩ ?_
    · have g := x.gr b o e
      rw [upd_ne (ne_of_none e x.new), h1 b (ne_of_none e x.new) (ne_of_none g hp0)]
      exact g
    · rw [upd_ne nad, h1 a nad nap]
      exact x.er
    · rw [upd_ne (Ne.symm ndp)]
      exact h3
def tEnd (K : PySem.W.Frag) : TS := tRet (tIf (tAnd (tTest (tOp rEq (tCB (fun xs H Q => ∃ x n, xs = [x] ∧ LenV K x H n ∧ Q (.int n) H) (tCons (tVar 5) tNil)) (tC (.int 1)))) (L2.tB (tIsC K (.ty "ValueError")))) (tTupN (tCons (tOp (rIxL K) (tVar 5) (tC (.int 0))) tNil)) (tTupN (tCons (tW "other error") tNil)))
def tErr (K : PySem.W.Frag) (C : Str → Addr) : TS :=
  tSeq (tAsg (tDisp (prs K C ["model", "test"])) (gName 4))
  (tSeq (tDrop (tUpd (tVar 4) (tDisp (prs K C ["combination", "suite"]))))
  (tSeq (tDrop (tUpd (tVar 4) (tDisp (prs K C ["strength", "text"]))))
  (tSeq (tDrop (tUpd (tVar 4) (tDisp (prs K C ["hypothesis", "number"]))))
  (tSeq (tDrop (tUpd (tVar 4) (tDisp (prs K C ["results", "index"]))))
  (tSeq (tDrop (tUpd (tVar 4) (tDisp (prs K C ["large", "many"]))))
  (tSeq (tDrop (tUpd (tVar 4) (tDisp (prs K C ["unexplained", "same"]))))
  (tSeq (tDrop (tUpd (tVar 4) (tDisp (prs K C ["contradiction", "use"]))))
  (tSeq (tDrop (tUpd (tVar 4) (tDisp (prs K C ["undo"]))))
  (tSeq (tNames K) (tEnd K))))))))))
theorem err_read (R : ResC K C CT j) {v0 v2 : V} {H : Hp} (hE : H a = some (ErrO (.ref (C j)) a)) {D : Ends} (q : ∀ H' p (ob : Obj), Gr H H' → H p = none → ob.dict = none → H' p = some (.frz ob (.tup [.str j])) → D.rt (.ref p) H') :
    tErr K C D [some v0, some (.ref a), some v2, none, none, none, none] H := by
  unfold tErr tSeq tAsg
  refine disp_read (l := ["model", "test"]) (σ := [some v0, some (.ref a), some v2, none, none, none, none]) R rfl hE (by decide) (by decide) (by decide) fun d hd => ?_
  have x0 : At H j a d ["model", "test"] C (upd H d (.dK (kvF j ["model", "test"]))) := ⟨fun b o e => by rw [upd_ne (ne_of_none e hd)]; exact e, hd, upd_same, by rw [upd_ne (ne_of_none hE hd)]; exact hE⟩
  refine upd_read (r := ["combination", "suite"]) (σ := [some v0, some (.ref a), some v2, none, some (.ref d), none, none]) R rfl rfl x0 (by decide) (by decide) (by decide) (by decide) fun H1 x1 => ?_
  refine upd_read (r := ["strength", "text"]) (σ := [some v0, some (.ref a), some v2, none, some (.ref d), none, none]) R rfl rfl x1 (by decide) (by decide) (by decide) (by decide) fun H2 x2 => ?_
  refine upd_read (r := ["hypothesis", "number"]) (σ := [some v0, some (.ref a), some v2, none, some (.ref d), none, none]) R rfl rfl x2 (by decide) (by decide) (by decide) (by decide) fun H3 x3 => ?_
  refine upd_read (r := ["results", "index"]) (σ := [some v0, some (.ref a), some v2, none, some (.ref d), none, none]) R rfl rfl x3 (by decide) (by decide) (by decide) (by decide) fun H4 x4 => ?_
  refine upd_read (r := ["large", "many"]) (σ := [some v0, some (.ref a), some v2, none, some (.ref d), none, none]) R rfl rfl x4 (by decide) (by decide) (by decide) (by decide) fun H5 x5 => ?_
  refine upd_read (r := ["unexplained", "same"]) (σ := [some v0, some (.ref a), some v2, none, some (.ref d), none, none]) R rfl rfl x5 (by decide) (by decide) (by decide) (by decide) fun H6 x6 => ?_
  refine upd_read (r := ["contradiction", "use"]) (σ := [some v0, some (.ref a), some v2, none, some (.ref d), none, none]) R rfl rfl x6 (by decide) (by decide) (by decide) (by decide) fun H7 x7 => ?_
  refine upd_read (r := ["undo"]) (σ := [some v0, some (.ref a), some v2, none, some (.ref d), none, none]) R rfl rfl x7 (by decide) (by decide) (by decide) (by decide) fun H8 x8 => ?_
  have x8 : At H j a d resL C H8 := x8
  refine names_read R x8 fun H9 p x9 hp => ?_
  refine ⟨.ref p, rfl, .ref p, 1, rfl, .inl ⟨[.str j], .inl (.inl hp), rfl⟩, rfl, true, rfl, ?_⟩
  refine iteT ⟨.ref a, rfl, a, C j, .ty "ValueError", .type "ValueError", true, rfl, x9.er, R.ec, fun u r => r, R.ve, true, rfl, ?_⟩
  refine iteT ⟨.ref p, rfl, p, [.str j], 0, .str j, rfl, rfl, .inl (.inl hp), atI_nat (xs := [V.str j]) (j := 0) rfl, (by rw [sizeLine_eq]; show 1 ≤ 16777216; omega), fun r ob hr hd => ?_⟩
  refine q _ r ob (fun b o e => ?_) ?_ hd upd_same
  · have g := x9.gr b o e
    rw [upd_ne (ne_of_none g hr)]
    exact g
  · cases e : H r with
    | none => rfl
    | some o =>
      have g := x9.gr r o e
      rw [hr] at g
      cases g
end
end Ev

set_option Elab.async false
set_option linter.all false
set_option maxRecDepth 100000
set_option maxHeartbeats 2000000
set_option autoImplicit false
namespace Ev
open PySem PySem.Spec PyProof.Rows L2
def sutT : Addr → Value → TS := fun _ _ => tAsg (tVar 3) (gName 1)
abbrev rNn : R2 := fun x y H Q => y = .non ∧ Q (.bl (decide (x = .non))) H
def t_result (K : PySem.W.Frag) (C : Str → Addr) (CT : Addr) (act : WX → TE) : TS :=
  tSeq (tAsg (tTup (tCons (tC .non) (tCons (tC .non) tNil))) (gTup K 2 (gCons (gName 1) (gCons (gName 2) gNil))))
  (tSeq (fun D σ H => tAsg (act (wKept K (.ref CT) 3 sutT D)) (gName 2) D σ H)
  (tSeq (tIfS (tTest (tOp rNn (tVar 1) (tC .non))) (tRet (tTupN (tCons (tW "returns") (tCons (tVar 2) tNil)))) tNext)
  (tErr K C)))
def nRes : List Str := ["call", "raised", "result", "e", "some", "names", "name"]
section
variable {T : Tb} {fd : Nat → FuncData} {ca : Nat → Addr} {b : Bx} {cf : CF} {k fu : Nat} {X : Cx} {N : List Str} {sc : Scope} {fv : Str → Bool} (O : Ok T fd ca b cf k X N sc fv)
include O
theorem nm_ {i : Nat} {y : Str} {pos : Pos} (h : tB N sc fv i y = true := by decide +kernel) : PG X (.Name y pos) (gName i) := pg_name (O.t h).1 (O.t h).2.1 (O.t h).2.2.1 (O.t h).2.2.2
theorem isx_ {j : Nat} {x : Str} {p1 p2 p3 pos : Pos} (h : xB T sc j x = true := by decide +kernel) (hi : bB T sc "isinstance" = true := by decide +kernel) (hv : vB N sc 1 "raised" = true := by decide +kernel) :
    PE X (.Call (.Name "isinstance" p1) [.Name "raised" p2, .Name x p3] [] pos) (tIsC X.K (.ref (ca j))) :=
  pe_callB call_isX (O.blt hi).1 (O.blt hi).2.1 rfl (pa_cons (v_ O hv) (pa_cons (pe_glob (v := .ref (ca j)) (O.x h).1 (O.x h).2.1.mg rfl (O.x h).2.2.2) pa_nil)) (O.blt hi).2.2.2 (O.blt hi).2.2.1
theorem isv_ {p1 p2 p3 pos : Pos} (h : bB T sc "ValueError" = true := by decide +kernel) (hi : bB T sc "isinstance" = true := by decide +kernel) (hv : vB N sc 1 "raised" = true := by decide +kernel) :
    PE X (.Call (.Name "isinstance" p1) [.Name "raised" p2, .Name "ValueError" p3] [] pos) (tIsC X.K (.ty "ValueError")) :=
  pe_callB call_isX (O.blt hi).1 (O.blt hi).2.1 rfl (pa_cons (v_ O hv) (pa_cons (pe_bltn (v := .ty "ValueError") (u := .type "ValueError") (O.blt h).1 (O.blt h).2.1 (by decide +kernel) rfl (O.blt h).2.2.2 (O.blt h).2.2.1) pa_nil)) (O.blt hi).2.2.2 (O.blt hi).2.2.1
theorem nones_ {x y : Str} {px py pt pt2 pos p1 p2 : Pos} {i j kt k2 j1 j2 : Nat} (h : (oneC sc x y px py (.Constant .none j1 p1) (.Constant .none j2 p2) && tB N sc fv i x && tB N sc fv j y) = true := by decide +kernel) :
    PS X (.Assign [.Tuple [.Name x px, .Name y py] kt pt] (.Tuple [.Constant .none j1 p1, .Constant .none j2 p2] k2 pt2) pos) (tAsg (tTup (tCons (tC .non) (tCons (tC .non) tNil))) (gTup X.K 2 (gCons (gName i) (gCons (gName j) gNil)))) := by
  simp only [Bool.and_eq_true] at h
  have hk : X.env.scope.kind = .function := by rw [O.esc]; exact O.kd
  have hb : X.env.blockKind = .function := by unfold Env.blockKind; rw [hk]; rfl
  exact ps_asg (pe_tup (pa_cons pe_non (pa_cons pe_non pa_nil))) (pg_tup O.calm (pgs_cons (nm_ O h.1.2) (pgs_cons (nm_ O h.2) pgs_nil))) rfl (sw2_no hb O.esc h.1.1) rfl
theorem asT_ {i : Nat} {y : Str} {py pos : Pos} {e : Expr} {te : TE} {pn : List (Addr × Obj)} {xe : Value → Shared → Prop} (he : PE (X.tr pn xe) e te) (h : tB N sc fv i y = true := by decide +kernel) (hn : notComp e = true := by rfl) : PS (X.tr pn xe) (.Assign [.Name y py] e pos) (tAsg te (gName i)) :=
  ps_set (X := X.tr pn xe) (O.t h).1 (O.t h).2.1 (O.t h).2.2.1 he (swaps_no hn) (O.t h).2.2.2
theorem asS_ {i j : Nat} {y z : Str} {py pz pos : Pos} {a : Addr} {pn : List (Addr × Obj)} (h : tB N sc fv i y = true := by decide +kernel) (hv : vB N sc j z = true := by decide +kernel) : PS (X.suite a pn) (.Assign [.Name y py] (.Name z pz) pos) (tAsg (tVar j) (gName i)) :=
  ps_set (X := X.suite a pn) (O.t h).1 (O.t h).2.1 (O.t h).2.2.1 (pe_var (X := X.suite a pn) (O.v hv).1 (O.v hv).2.1 (O.v hv).2.2.1 (O.v hv).2.2.2) (swaps_no rfl) (O.t h).2.2.2
theorem names_ {py pos spos p1 p2 p3 p4 p5 p6 : Pos} {scope : Scope} (hb : blkC N sc scope [("name", 6)] = true := by decide +kernel) (hy : decide (N[5]? = some ("names" : Str)) = true := by decide +kernel) (hw : swB sc scope "names" py pos = true := by decide +kernel)
    (h1 : vB N sc 4 "some" = true := by decide +kernel) (h2 : tB N (relS scope sc) (fun x => scope.names.lookup x == some .cell) 6 "name" = true := by decide +kernel) (h3 : vB N (relS scope sc) 6 "name" = true := by decide +kernel) (h4 : vB N (relS scope sc) 4 "some" = true := by decide +kernel) :
    PS X (.Assign [.Name "names" py] (.ListComp (.Name "name" p1) [⟨.Name "name" p2, .Name "some" p3, [.Subscript (.Name "some" p4) (.Name "name" p5) p6], 0⟩] scope pos) spos) (tNames X.K) := by
  have bo := blkOk_by hb
  have N' : BlkOk X.N X.env.scope scope [("name", 6)] := by rw [O.eN, O.esc]; exact bo
  have hl : (py.line == pos.line) = true := by simp only [swB, Bool.and_eq_true] at hw; exact hw.1.2
  obtain ⟨w1, w2⟩ := swap_true O hw hl (elt := .Name "name" p1) (gs := [⟨.Name "name" p2, .Name "some" p3, [.Subscript (.Name "some" p4) (.Name "name" p5) p6], 0⟩]) (l := spos.line)
  exact ps_lock (ps_setLc (own := [("name", 6)]) O.calm (by rw [O.eN]; exact O.nd) (by rw [O.eN]; exact of_decide_eq_true hy) w2 w1 (pi_keys (v_ O h1)) N' (fun s H C cl fp => nm_ (O.blk s H scope bo.kind C cl fp) h2)
    (fun s H C cl fp => pts_one (pt_truth (pe_dget (by have := (O.blk s H scope bo.kind C cl fp).un; omega) (v_ (O.blk s H scope bo.kind C cl fp) h4) (v_ (O.blk s H scope bo.kind C cl fp) h3) (fun _ _ => rfl)) (fun _ => rfl))) (fun s H C cl fp => v_ (O.blk s H scope bo.kind C cl fp) h3) (folded_no rfl))
theorem try_ {body suite : List Stmt} {b₀ : Stmt} {np pos pos' : Pos} {x n : Str} {i j : Nat} {tb : WX → TS} {ts : Addr → Value → TS} (hs : X.stack = X.env :: X.outer) (hf : X.env.frame = some X.env.locals) (hex : X.ex = [])
    (hb : ∀ (W : WX) (pn : List (Addr × Obj)) (xe : Value → Shared → Prop), Takes (X.tr pn xe) W → PassesOwn (model X.prog X.w) X.A X.env xe → PSs (X.tr pn xe) body (tb W))
    (hsu : ∀ (a : Addr) (oe : Obj) (cls : Value) (pn : List (Addr × Obj)), PSs (X.suite a ((a, oe) :: pn)) (b₀ :: suite) (ts a cls))
    (h : xB T sc j x = true := by decide +kernel) (hi : (decide (N[i]? = some n) && lclB sc n) = true := by decide +kernel) :
    PS X (.Try body [.ExceptHandler (some (.Name x np)) (some n) (b₀ :: suite) pos'] [] [] pos) (fun D σ H => tb (wKept X.K (.ref (ca j)) i ts D) D σ H) := by
  simp only [Bool.and_eq_true, decide_eq_true_eq] at hi
  refine ps_tryKept hs hf hex (by rw [O.eN]; exact O.nd) (by rw [O.eN]; exact hi.1) ?_ ⟨(O.x h).1, (O.x h).2.2.2, .inl (O.x h).2.1.mg⟩ hb hsu
  show X.env.scope.names.lookup n = _
  rw [O.esc]
  exact lcl_of hi.2
end
def MonoT (tl : XK → Hp → VK → Prop) : Prop := ∀ (E E' : XK) (H : Hp) (Q Q' : VK), (∀ c d H', E c d H' → E' c d H') → (∀ v H', Q v H' → Q' v H') → tl E H Q → tl E' H Q'
def resTT (K : PySem.W.Frag) (C : Str → Addr) (CT : Addr) : (XK → Hp → VK → Prop) → Hp → VK → Prop := fun tl H Q => MonoT tl ∧ ∀ t, H t = none →
  tl (fun cls d H' => ∃ y, d = none ∧ cls = .ref (C y) ∧ ResC K C CT y ∧ ∀ H'' p (ob : Obj), Gr H' H'' → H' p = none → ob.dict = none → H'' p = some (.frz ob (.tup [.str y])) → Q (.ref p) H'') (upd H t (.tup [.non, .non])) (fun v H' => NewT Q H' [.str "returns", v])
theorem result_read {K : PySem.W.Frag} {C : Str → Addr} {CT f k' : Addr} {q : Str} {H : Hp} {Q : VK} {tl : XK → Hp → VK → Prop} {act : WX → TE}
    (hact : ∀ W σ H Q, σ[0]? = some (some (V.ref f)) → H k' = some (LamX.CodeO k' q) → tl (fun cls d H' => W cls d σ H') H Q → act W σ H Q)
    (hc : H k' = some (LamX.CodeO k' q)) (h : resTT K C CT tl H Q) : t_result K C CT act { nx := fun _ H' => Q .non H', rt := Q } (L2.start nRes [.ref f]) H := by
  obtain ⟨mono, h⟩ := h
  have e0 : L2.start nRes [.ref f] = [some (.ref f), none, none, none, none, none, none] := rfl
  rw [e0]
  refine ⟨(by rw [sizeLine_eq]; show 2 ≤ 16777216; omega), fun t ht => ?_⟩
  refine ⟨t, [.non, .non], rfl, .inl (.inl upd_same), rfl, .non, [.non], rfl, .non, [], rfl, rfl, ?_⟩
  refine hact _ _ _ _ rfl (by rw [upd_ne (ne_of_none hc ht)]; exact hc) (mono _ _ _ _ _ (fun cls d H' hE => ?_) (fun v H' hv => ?_) (h t ht))
  · obtain ⟨y, hd, hcl, R, hy⟩ := hE
    subst hd hcl
    refine ⟨rfl, R.exm, fun a ha => ⟨.ref a, rfl, fun _ => ?_⟩⟩
    refine ⟨.ref a, rfl, rfl, decide (V.ref a = V.non), rfl, ?_⟩
    have hf : decide (V.ref a = V.non) = false := decide_eq_false (fun z => by cases z)
    rw [hf]
    refine iteF (err_read R (a := a) (v0 := .ref f) (v2 := .non) upd_same fun H'' p ob g hp hd h2 => hy H'' p ob (fun b o e => g b o (by rw [upd_ne (ne_of_none e ha)]; exact e)) ?_ hd h2)
    cases e : H' p with
    | none => rfl
    | some o =>
      rw [upd_ne (ne_of_none e ha), e] at hp
      cases hp
  · refine ⟨.non, rfl, rfl, true, rfl, iteT ⟨v, rfl, (by rw [sizeLine_eq]; show 2 ≤ 16777216; omega), hv⟩⟩
/-- what the maker of a lambda has: its code object, its table -/
structure LamOk (k : Nat) (X : Cx) (b : Bx) : Prop where
  room : Room (k + 4) X.A
  tab : ∃ (c P : Addr) (i : Nat), LamX.TabB X.base X.mg c P ∧ X.env.code = .ref c ∧ b.z.tb[i]? = some (P, X.env.qual ++ "<lambda>")
theorem Wf.lam {z : Zt} {m : Mu} {F : Fz} {w : W} {H H1 : Hp} {i : Nat} {P : Addr} {q : Str} {ps : Array Value} (wf : Wf z m F w H) (hi : z.tb[i]? = some (P, q)) (hT : H P = some (.tbl ps)) (hF : ∀ (pos : Pos) (cv : Value), codeAmong pos ps.toList = some cv → ∃ c, cv = .ref c ∧ F c ∧ H c = some (LamX.CodeO c q)) (to : LamTo H P q ps H1) :
    ∃ F1, Fm m F H m F1 H1 ∧ Wf z m F1 w H1 := by
  rcases to with rfl | ⟨k, qs, hk, rfl, h2, h3⟩
  · exact ⟨F, Fm.refl _ _ _, wf⟩
  · obtain ⟨m1, w1⟩ := wf.tab i _ hi
    have mP : P ∈ m.flatten := List.mem_flatten.mpr ⟨_, List.mem_of_getElem? m1, by simp⟩
    have nPk : P ≠ k := ne_of_none hT hk
    have keep : ∀ a o, H a = some o → a ∉ m.flatten → upd (upd H P (.tbl qs)) k (LamX.CodeO k q) a = some o := fun a o e hn => by
      have na : a ≠ P := fun z => hn (by rw [z]; exact mP)
      rw [upd_ne (ne_of_none e hk), upd_ne na]
      exact e
    have dom : ∀ a o, H a = some o → ∃ o', upd (upd H P (.tbl qs)) k (LamX.CodeO k q) a = some o' := fun a o e => by
      by_cases ha : a = P
      · exact ⟨_, by rw [upd_ne (ne_of_none e hk), ha, upd_same]⟩
      · exact ⟨o, by rw [upd_ne (ne_of_none e hk), upd_ne ha]; exact e⟩
    have fm : Fm m F H m (frzA F k) (upd (upd H P (.tbl qs)) k (LamX.CodeO k q)) := ⟨keep, dom, fun _ h => .inl h, fun _ _ h => h, fun _ h => .inl h, fun a h => by
      rcases h with h | h
      · exact .inl h
      · exact .inr (h ▸ hk)⟩
    have keepF : ∀ a o, F a → H a = some o → upd (upd H P (.tbl qs)) k (LamX.CodeO k q) a = some o := fun a o hf e => keep a o e fun hm => wf.nF a hm hf
    refine ⟨frzA F k, fm, ⟨wf.len, fun n as mo e1 e2 => ?_, wf.nd, fun a hm hf => ?_, fun a hf => ?_, fun a hm => ?_, ?_, wf.tab⟩⟩
    · by_cases hn : n = i + 1
      · subst hn
        rw [m1] at e1
        rw [w1] at e2
        cases e1
        cases e2
        refine ⟨P, rfl, qs, by rw [upd_ne nPk, upd_same], h2, fun pos cv hc => ?_⟩
        rcases h3 pos cv hc with hc | hc
        · obtain ⟨c, e, f, hcc⟩ := hF pos cv hc
          exact ⟨c, e, .inl f, keepF c _ f hcc⟩
        · exact ⟨k, hc, .inr rfl, upd_same⟩
      · refine (wf.obj n as mo e1 e2).fm (fun a o ha e => ?_) (fun _ h => .inl h) keepF
        have na : a ≠ P := fun z => by
          subst z
          have pw := List.pairwise_iff_getElem.mp (List.pairwise_flatten.mp wf.nd).2
          obtain ⟨k1, q1⟩ := List.getElem?_eq_some_iff.mp e1
          obtain ⟨k2, q2⟩ := List.getElem?_eq_some_iff.mp m1
          rcases Nat.lt_or_gt_of_ne hn with z | z
          · exact (pw n (i + 1) k1 k2 z) a (by rw [q1]; exact ha) a (by rw [q2]; simp) rfl
          · exact (pw (i + 1) n k2 k1 z) a (by rw [q2]; simp) a (by rw [q1]; exact ha) rfl
        rw [upd_ne (ne_of_none e hk), upd_ne na]
        exact e
    · rcases hf with hf | hf
      · exact wf.nF a hm hf
      · obtain ⟨o, e⟩ := wf.mdom a hm
        rw [hf, hk] at e
        cases e
    · rcases hf with hf | hf
      · obtain ⟨o, e⟩ := wf.dom a hf
        exact dom a o e
      · exact ⟨LamX.CodeO k q, by rw [hf, upd_same]⟩
    · obtain ⟨o, e⟩ := wf.mdom a hm
      exact dom a o e
    · exact wf.scr.imp (fun ⟨a1, a2⟩ => ⟨.inl a1, Rd.keep a2 fun o e => keepF _ o a1 e⟩) id
/-- what is known of _law_result -/
structure ResFx (T : Tb) (fd : Nat → FuncData) (ca : Nat → Addr) (b : Bx) (cf : CF) (k : Nat) (K : PySem.W.Frag) (jr : Nat) (st : Stmt) (xn : List Str) : Prop where
  ps : T.ps jr = [("call" : Str)]
  fun_ : FunD K "_law_result" "_law_result" (defArgs st) (defBody st) (defScope st) [] [] (b.z.fa jr) (fd jr)
  sco : scB nRes ["call"] (defScope st) ⟨1, 7, .nil⟩ = true
  walk : ∀ (Z : Cx) (b' : Bx) (act : WX → TE), Ok T fd ca b' cf k Z nRes (defScope st) (fun _ => true) → Z.stack = Z.env :: Z.outer → Z.env.frame = some Z.env.locals → Z.ex = [] →
    (∀ (W : WX) (pn : List (Addr × Obj)) (xe : Value → Shared → Prop) (p1 p2 : Pos), Takes (Z.tr pn xe) W → PE (Z.tr pn xe) (.Call (.Name "call" p1) [] [] p2) (act W)) → PSs Z (defBody st) (t_result Z.K (fun y => ca (resL.idxOf y)) (ca 17) act)
  cls : ∀ (j : Nat) (y : Str), xn[j]? = some y → b.cl j = .ref (ca (resL.idxOf y)) ∧ ResC K (fun y => ca (resL.idxOf y)) (ca 17) y
theorem post_mono {α β : Type} {b : Bx} {E : XK} {m : Mu} {F : Fz} {H : Hp} {r : R α} {Rl : Mu → Fz → Hp → β → α → Prop} {Q Q' : β → Hp → Prop} (h : Post b m F H r Rl Q) (hE : ∀ c d H, b.E c d H → E c d H) (hQ : ∀ v H, Q v H → Q' v H) : Post { b with E := E } m F H r Rl Q' := by
  cases r with
  | ok d w => exact fun m' F' H' v f wf r => hQ _ _ (h m' F' H' v f wf r)
  | exc c w => exact fun m' F' H' f wf => hE _ _ _ (h m' F' H' f wf)
  | bad => exact h
section
variable {T : Tb} {fd : Nat → FuncData} {ca : Nat → Addr} {b : Bx} {cf : CF} {k fu : Nat} {X : Cx} {N : List Str} {sc : Scope} {fv : Str → Bool} (O : Ok T fd ca b cf k X N sc fv)
include O
theorem g_lam {jr : Nat} {st : Stmt} {xn : List Str} {body : Expr} {scope : Scope} {c : E} {p lpos pos : Pos} {params : Arguments} (L : LamOk k X b) (G : ResFx T fd ca b cf k X.K jr st xn)
    (hbody : ∀ (X' : Cx) (E : XK), Ok T fd ca { b with E := E } cf k X' N scope (fun _ => false) → PE X' body (rE { b with E := E } (evE cf c)))
    (hdef : defaultsOf params X.env = ([], []))
    (hbind : ∀ (q : Str) (cl : List (Str × Addr)) (pm cv ctv : Value), bindArgs (PySem.W.kla_fn "<lambda>" q params body scope cl pm cv ctv) ⟨[], []⟩ = pure [])
    (h : (fB T sc jr "_law_result" && LamX.lamSB sc scope) = true := by decide +kernel) :
    PE X (.Call (.Name "_law_result" p) [.Lambda params body scope lpos] [] pos) (rE b (evE cf (.lam xn c))) := by
  simp only [Bool.and_eq_true] at h
  obtain ⟨hf, hl⟩ := h
  have LS : LamX.LamS X.env.scope scope := by rw [O.esc]; exact LamX.lamS_by hl
  obtain ⟨cd, P, i, TB, hcode, hi⟩ := L.tab
  have hs := G.sco
  simp only [scB, Bool.and_eq_true, decide_eq_true_eq, Bool.not_eq_true'] at hs
  obtain ⟨⟨⟨⟨⟨⟨⟨⟨⟨h1, h2⟩, h3⟩, h4⟩, h5⟩, h6⟩, h7⟩, h8⟩, h9⟩, h10⟩ := hs
  have hkd : (defScope st).kind = .function := by
    split at h8
    · assumption
    · cases h8
  have S : FnScope nRes ["call"] (defScope st) := ⟨hkd, h9, h10, h1, h2, fun y hy => loc_of (List.all_eq_true.mp h3 y hy), fun y hy e => by
    have := List.all_eq_true.mp h4 y hy
    rw [e] at this
    cases this⟩
  have hva : Vis (defScope st) "call" := by
    rcases loc_of (List.all_eq_true.mp h3 "call" List.mem_cons_self) with q | q
    · exact .inl q
    · exact .inr (.inl q)
  obtain ⟨oc, od, dV, kV, doc, pm, an, cdv, ct, osl, efd, lk, hcd, hD, hK⟩ := G.fun_.ex
  have hb := O.bd jr (O.f hf).1
  rw [G.ps, efd] at hb
  rw [efd] at lk
  have hG : GivesS X (k + 2) nRes "_law_result" (defScope st) (b.z.fa jr) cdv (defBody st) "call" (X.env.qual ++ "<lambda>") (resTT X.K (fun y => ca (resL.idxOf y)) (ca 17)) := by
    intro f k' s H Q tl hr act hc hT
    have O' : Ok T fd ca { b with E := fun _ _ _ => False } cf k (cxOf C8.CX0 X.prog X.w X.K X.mg X.base nRes "_law_result" (defScope st) (b.z.fa jr) cdv X.A X.stack s H C8.E0).nox nRes (defScope st) (fun _ => true) :=
      { eN := rfl, nd := h1, esc := rfl, kd := hkd, efv := rfl, calm := rfl, room := hr.mono (by omega), rm2 := hr.mono (by omega), cs := O.cs, ew := O.ew, eK := O.eK, tk := LamX.takes0, fns := O.fns, mgf := O.mgf, kp := O.kp, bd := O.bd, kb := O.kb, bl := O.bl, gi := O.gi, ex := O.ex }
    exact ⟨_, G.walk _ _ (fun W σZ HZ Q => σZ[0]? = some (some (.ref f)) ∧ HZ k' = some (LamX.CodeO k' (X.env.qual ++ "<lambda>")) ∧ tl (fun cls d H' => W cls d σZ H') HZ Q) O' rfl rfl rfl (fun W pn xe p1 p2 tk => act W pn xe p1 p2 tk), result_read (fun W σ H Q a1 a2 a3 => ⟨a1, a2, a3⟩) hc hT⟩
  refine (pe_lamR (k := k + 2) (t := fun E => rE { b with E := E } (evE cf c)) (O.f hf).2.1 (O.f hf).2.2.1 (O.kp jr (O.f hf).1) lk hcd hb S rfl hva hG TB hcode L.room LS hdef hbind (fun A outer s H E f k' hr => hbody _ E ?_) (O.f hf).2.2.2 (by decide) (by decide)).imp fun σ H Q hq => ?_
  · exact { eN := O.eN, nd := O.nd, esc := rfl, kd := LS.kind, efv := rfl, calm := rfl, room := hr.mono (by omega), rm2 := hr, cs := O.cs, ew := O.ew, eK := O.eK, tk := takes_of rfl rfl rfl rfl, fns := O.fns, mgf := O.mgf, kp := O.kp, bd := O.bd, kb := O.kb, bl := O.bl, gi := O.gi, ex := O.ex }
  · obtain ⟨m, F, s, w, wf, sl, p⟩ := hq
    have p : Post b m F H (resM xn (evE cf c s) w) (Rep b.z) Q := by simpa only [evE] using p
    obtain ⟨m1, w1⟩ := wf.tab i _ hi
    obtain ⟨P', e, ps, hP, ht, hF⟩ := wf.obj (i + 1) _ _ m1 w1
    cases e
    refine ⟨ps, ⟨hP, ht, fun pos cv hc => ?_⟩, fun H1 to => ⟨fun E E' H Q Q' hE hQ ⟨m, F, s, w, wf, sl, p⟩ => ⟨m, F, s, w, wf, sl, ?_⟩, fun t hn => ?_⟩⟩
    · obtain ⟨c, e, _, hcc⟩ := hF pos cv hc
      exact ⟨c, e, hcc⟩
    · exact post_mono (b := { b with E := E }) p hE hQ
    · obtain ⟨F1, fm1, wf1⟩ := wf.lam hi hP hF to
      have fm2 := fm1.trans (Fm.laid (m := m) (F := F1) (o := .tup [.non, .non]) hn)
      have wf2 := wf1.laid (o := .tup [.non, .non]) hn
      refine ⟨m, F1, s, w, wf2, sl.fm wf fm2, ?_⟩
      have p2 : Post b m F1 (upd H1 t (.tup [.non, .non])) (resM xn (evE cf c s) w) (Rep b.z) Q := p.after fm2
      unfold resM at p2
      cases q : evE cf c s w with
      | bad => rw [q] at p2; exact p2
      | ok d w' =>
        rw [q] at p2
        refine fun m' F' H' v f wf' r u ob hu hd => p2 m' (frzA F' u) _ (.ref u) (f.trans (Fm.laidF hu)) (wf'.laidF hu) (.tup (.new (.inr rfl) hd upd_same) (.cons (.str _) (.cons ?_ .nil)))
        exact wf'.rep (Fm.laidF hu) r
      | exc j w' =>
        rw [q] at p2
        cases e : xn[j]? with
        | none => simp only [e] at p2; exact p2.elim
        | some y =>
          simp only [e] at p2
          obtain ⟨ecl, R⟩ := G.cls j y e
          intro m' F' H' f wf'
          refine ⟨y, rfl, ecl, R, fun H'' u ob g hu hd h'' => ?_⟩
          have hold : ∀ a o, H' a = some o → H'' a = some o := g
          refine p2 m' (frzA F' u) H'' (.ref u) (f.trans ⟨fun a o e _ => g a o e, fun a o e => ⟨o, g a o e⟩, fun _ h => .inl h, fun _ _ h => h, fun _ h => .inl h, fun a h => ?_⟩) (wf'.more (fun _ h => .inl h) g fun a h => ?_) (.tup (.new (.inr rfl) hd h'') (.cons (.str _) .nil))
          · rcases h with h | h
            · exact .inl h
            · exact .inr (h ▸ hu)
          · rcases h with h | h
            · obtain ⟨o, eo⟩ := wf'.dom a h
              exact ⟨.inl h, o, g a o eo⟩
            · subst h
              exact ⟨.inr (.inl hu), _, h''⟩
end
end Ev

set_option Elab.async false
set_option linter.all false
set_option maxRecDepth 100000
set_option maxHeartbeats 2000000
set_option autoImplicit false
namespace Ev
open PySem PySem.Spec PyProof.Rows L2
section
variable {T : Tb} {fd : Nat → FuncData} {ca : Nat → Addr} {b : Bx} {cf : CF} {k fu : Nat} {X : Cx} {N : List Str} {sc : Scope} {fv : Str → Bool} (O : Ok T fd ca b cf k X N sc fv)
include O
omit O in
theorem LamOk.blk (L : LamOk k X b) (s : Shared) (H : Hp) (scope : Scope) (C : Addr) (cl : List (Str × Addr)) (fp : List Addr) : LamOk k (X.blk s H scope (compEnvC scope cl C X.env) fp) b.no := ⟨L.room, L.tab⟩
omit O in
theorem ResFx.no {K : PySem.W.Frag} {jr : Nat} {st : Stmt} {xn : List Str} (G : ResFx T fd ca b cf k K jr st xn) : ResFx T fd ca b.no cf k K jr st xn := ⟨G.ps, G.fun_, G.sco, G.walk, G.cls⟩
omit O in
theorem ResFx.blk {X' : Cx} {jr : Nat} {st : Stmt} {xn : List Str} (G : ResFx T fd ca b cf k X.K jr st xn) (e : X'.K = X.K) : ResFx T fd ca b.no cf k X'.K jr st xn := e ▸ G.no
variable {tg iter elt : Expr} {ifs : List Expr} {scope : Scope} {pos : Pos} {own : List (Str × Nat)} {tgc : Tg} {itc : I} {ifc : Ts} {ec : E}
variable {i : Nat} {y : Str} {py spos : Pos}
end
end Ev

set_option Elab.async false
set_option linter.all false
set_option maxRecDepth 100000
set_option autoImplicit false
namespace HT
open PySem PySem.Calls PyProof.Rows L2
section
variable {prog : Program} {w : World} {A : Around} {E : Value → Shared → Prop} {s : Shared}
end
end HT
namespace L2
open PySem PySem.Spec PyProof.Rows
end L2

set_option Elab.async false
set_option linter.all false
set_option maxRecDepth 100000
set_option autoImplicit false
namespace Ev
open PySem PySem.Spec PyProof.Rows L2
theorem RepAll.reverse {z : Zt} {m : Mu} {F : Fz} {H : Hp} : ∀ {vs : List V} {ds : List D}, RepAll z m F H vs ds → RepAll z m F H vs.reverse ds.reverse
  | _, _, .nil => .nil
  | _, _, .cons h t => by
    rw [List.reverse_cons, List.reverse_cons]
    exact (RepAll.reverse t).append (.cons h .nil)
section
variable {X : Cx} {b : Bx} [KEq X b.z] {cf : CF} {fu : Nat} {a c : Expr} {ca cb : E} {pos p1 : Pos}
end
section
variable {T : Tb} {fd : Nat → FuncData} {ca : Nat → Addr} {b : Bx} {cf : CF} {k fu : Nat} {X : Cx} {N : List Str} {sc : Scope} {fv : Str → Bool} (O : Ok T fd ca b cf k X N sc fv)
include O
end
end Ev

set_option Elab.async false
set_option linter.all false
set_option maxRecDepth 100000
set_option autoImplicit false
namespace Ev
open PySem PySem.Spec PyProof.Rows L2
section
variable {X : Cx} {b : Bx} [KEq X b.z] {cf : CF} {fu : Nat} {a c : Expr} {ca cb : E} {pos p1 : Pos}
end
section
variable {T : Tb} {fd : Nat → FuncData} {ca : Nat → Addr} {b : Bx} {cf : CF} {k fu : Nat} {X : Cx} {N : List Str} {sc : Scope} {fv : Str → Bool} (O : Ok T fd ca b cf k X N sc fv)
include O
end
end Ev

set_option Elab.async false
set_option linter.all false
set_option maxRecDepth 100000
set_option autoImplicit false
namespace Ev
open PySem PySem.Spec PyProof.Rows L2
section
variable {P : Program} {w : World} {z : Zt} {m : Mu} {F : Fz} {H : Hp} {h : Heap}
end
section
variable {X : Cx} {b : Bx} [KEq X b.z] {cf : CF} {fu : Nat}
end
section
variable {T : Tb} {fd : Nat → FuncData} {ca : Nat → Addr} {b : Bx} {cf : CF} {k fu : Nat} {X : Cx} {N : List Str} {sc : Scope} {fv : Str → Bool} (O : Ok T fd ca b cf k X N sc fv)
include O
end
end Ev

set_option Elab.async false
set_option linter.all false
set_option maxRecDepth 100000
set_option autoImplicit false
namespace Ev
open PySem PySem.Spec PyProof.Rows L2
section
variable {X : Cx} {z : Zt} [KEq X z] {m : Mu} {F : Fz} {pins : List (Addr × Obj)} {σ : L2.St} {H : Hp} {s : Shared} {E : Value → Shared → Prop} {ds es : List (D × D)}
end
section
variable {X : Cx} {b : Bx} [KEq X b.z] {cf : CF} {fu : Nat} {i : Nat} {x : Str}
end
section
variable {T : Tb} {fd : Nat → FuncData} {ca : Nat → Addr} {b : Bx} {cf : CF} {kk fu : Nat} {X : Cx} {N : List Str} {sc : Scope} {fv : Str → Bool} (O : Ok T fd ca b cf kk X N sc fv)
include O
end
end Ev

set_option Elab.async false
set_option linter.all false
set_option maxRecDepth 100000
set_option maxHeartbeats 2000000
set_option autoImplicit false
namespace Ev
open PySem PySem.Spec PyProof.Rows L2
section
variable {P : Program} {w : World} {K : PySem.W.Frag} {mg : Str → Option Value} {base : Heap}
/-- a def that makes lambdas -/
theorem def_okL {T : Tb} {fd : Nat → FuncData} {ca : Nat → Addr} {z : Zt} {cl : Nat → Value} {cf : CF} {k fu : Nat} (hw : z.wd = w) (A0 : Fx T fd ca z cl K mg) (IH : ∀ j, j < T.fn.length → FnOk P w K mg base (L2.CX P w) k (z.fa j) (fd j) (T.ps j) (spF z cl (cf j) (T.ps j).length))
    {x : Str} {st : Stmt} {f : Addr} {fdat : FuncData} {N ps : List Str} {fn : Fn} (F : FunD K x x (defArgs st) (defBody st) (defScope st) [] [] f fdat) (hs : scB N ps (defScope st) fn = true)
    (hT : ∃ (c P : Addr) (i : Nat), LamX.TabB base mg c P ∧ fdat.code = .ref c ∧ z.tb[i]? = some (P, x ++ ".<locals>." ++ "<lambda>"))
    (hb : ∀ (X : Cx) (b : Bx), b.z = z → b.cl = cl → X.K = K → Ok T fd ca b cf k X N (defScope st) (fun _ => true) → PassesOwn (model X.prog X.w) X.A X.env X.xe → LamOk k X b → PSs X (defBody st) (rS b (evB cf fu fn.body))) :
    FnOk P w K mg base (L2.CX P w) (k + 5) f fdat ps (spF z cl (runF cf fu fn) ps.length) := by
  simp only [scB, Bool.and_eq_true, decide_eq_true_eq, Bool.not_eq_true'] at hs
  obtain ⟨⟨⟨⟨⟨⟨⟨⟨⟨h1, h2⟩, h3⟩, h4⟩, h5⟩, h6⟩, h7⟩, h8⟩, h9⟩, h10⟩ := hs
  have hkd : (defScope st).kind = .function := by
    split at h8
    · assumption
    · cases h8
  have S : FnScope N ps (defScope st) := ⟨hkd, h9, h10, h1, h2, fun y hy => loc_of (List.all_eq_true.mp h3 y hy), fun y hy e => by
    have := List.all_eq_true.mp h4 y hy
    rw [e] at this
    cases this⟩
  obtain ⟨oc, od, dV, kV, doc, pm, an, cdv, ct, osl, rfl, lk, hcd, _, _⟩ := F.ex
  obtain ⟨c, Pt, i, tB, ec, hi⟩ := hT
  have ec : cdv = .ref c := ec
  refine fn_of lk hcd S (fun vs H Q E h => h.1) fun A outer s H vs Q E hr h => ?_
  obtain ⟨hl, m, Fz, w', ds, wf, r, p⟩ := h
  have O : Ok T fd ca (⟨z, cl, E, H, m, Fz⟩ : Bx) cf k (cxOf (L2.CX P w) P w K mg base N x (defScope st) f cdv A outer s H E) N (defScope st) (fun _ => true) :=
    { eN := rfl, nd := h1, esc := rfl, kd := hkd, efv := rfl, calm := rfl, room := hr.mono (by omega), rm2 := hr.mono (by omega), cs := A0.cs, ew := hw, eK := A0.eK, tk := takes_of rfl rfl rfl rfl, fns := IH, mgf := A0.mgf, kp := A0.kp, bd := A0.bd, kb := A0.kb, bl := A0.bl, gi := A0.gi, ex := A0.ex }
  have L : LamOk k (cxOf (L2.CX P w) P w K mg base N x (defScope st) f cdv A outer s H E) (⟨z, cl, E, H, m, Fz⟩ : Bx) := ⟨hr, c, Pt, i, tB, ec, hi⟩
  refine ⟨_, hb _ _ rfl rfl rfl O (passes_of rfl) L, ?_⟩
  have hd : ds.length = fn.np := by rw [← r.length, hl, h6]
  refine ⟨m, Fz, startA fn ds, w', ⟨wf, start_sl h5 r (by omega), Fm.refl _ _ _⟩, ?_⟩
  have p : Post ⟨z, cl, E, H, m, Fz⟩ m Fz H (runF cf fu fn ds w') (Rep z) Q := p
  unfold runF at p
  rw [if_pos hd] at p
  cases e : evB cf fu fn.body (startA fn ds) w' with
  | ok o w1 =>
    rw [bnd_ok e] at p
    cases o with
    | nx s' => exact fun m' F' H' σ' fk rel => p m' F' H' .non rel.fm rel.wf .non
    | ct s' => exact p.elim
    | rt v => exact fun m' F' H' v wf' f r => p m' F' H' v f wf' r
  | exc c w1 =>
    rw [bnd_exc e] at p
    exact fun m' F' H' wf' f => p m' F' H' f wf'
  | bad =>
    rw [bnd_bad e] at p
    exact p.elim
end
def excB (K : PySem.W.Frag) (D : Addr) : Bool :=
  decide (PySem.W.findIn K (.ref D) "__getattribute__" = some (some (.builtin "BaseException.__getattribute__"))) && (decide (PySem.W.findIn K (.ref D) "__getattr__" = some none) && (decide (PySem.W.subIn K (.ref D) (.type "BaseException") = some true) && (PySem.W.hasDictIn K D &&
  (decide (PySem.W.findIn K (.ref D) "__class__" = some (some (.builtin "object.__class__"))) && (decide (PySem.W.specialIn K (.builtin "object.__class__") "__get__" = some (some (.builtin "getset_descriptor.__get__"))) && (decide (PySem.W.takesIn K (.builtin "object.__class__") = some true) && decide (PySem.W.mroIn K D (.type "object") = some true)))))))
theorem excB_ok {K : PySem.W.Frag} {D : Addr} (h : excB K D = true) : ExcC K D := by
  simp only [excB, Bool.and_eq_true, decide_eq_true_eq] at h
  exact ⟨h.1, h.2.1, h.2.2.1, h.2.2.2.1, h.2.2.2.2.1, h.2.2.2.2.2.1, h.2.2.2.2.2.2.1, h.2.2.2.2.2.2.2⟩
def resB (ex : List Str) (K : PySem.W.Frag) : Bool := resL.all fun j => excB K (He.ga K (ex.getD (resL.idxOf j) "")) && ((resL.all fun y => decide (PySem.W.kitOne K (.ref (He.ga K (ex.getD (resL.idxOf j) ""))) (.ref (He.ga K (ex.getD (resL.idxOf y) ""))) = some (decide (y = j)))) &&
  (decide (PySem.W.kitOne K (.ref (He.ga K (ex.getD (resL.idxOf j) ""))) (.type "ValueError") = some true) && decide (PySem.W.exmOne K (.ref (He.ga K (ex.getD (resL.idxOf j) ""))) (.ref (He.ga K (ex.getD 17 ""))) = some true)))
theorem resB_ok {ex : List Str} {K : PySem.W.Frag} (h : resB ex K = true) : ∀ j ∈ resL, ResC K (fun y => He.ga K (ex.getD (resL.idxOf y) "")) (He.ga K (ex.getD 17 "")) j := fun j hj => by
  have := List.all_eq_true.mp h j hj
  simp only [Bool.and_eq_true, decide_eq_true_eq, List.all_eq_true] at this
  exact ⟨hj, excB_ok this.1, this.2.1, this.2.2.1, this.2.2.2⟩
theorem idx_resL {j : Nat} {y : Str} (h : resL[j]? = some y) : resL.idxOf y = j := by
  obtain ⟨hj, e⟩ := List.getElem?_eq_some_iff.mp h
  have nd : resL.Nodup := by decide
  rw [← e]
  exact nd.idxOf_getElem _ hj
theorem resFx_of {T : Tb} {fd : Nat → FuncData} {ca : Nat → Addr} {z : Zt} {cl : Nat → Value} {b : Bx} {cf : CF} {k jr : Nat} {K : PySem.W.Frag} {mg : Str → Option Value} {st : Stmt} (A0 : Fx T fd ca z cl K mg) (ez : b.z = z) (ec : b.cl = cl) (hp : T.ps jr = [("call" : Str)])
    (F : FunD K "_law_result" "_law_result" (defArgs st) (defBody st) (defScope st) [] [] (z.fa jr) (fd jr)) (hs : scB nRes ["call"] (defScope st) ⟨1, 7, .nil⟩ = true) (hx : ∀ j, j < 17 → ∃ x, T.ex[j]? = some x)
    (walk : ∀ (Z : Cx) (b' : Bx) (act : WX → TE), Ok T fd ca b' cf k Z nRes (defScope st) (fun _ => true) → Z.stack = Z.env :: Z.outer → Z.env.frame = some Z.env.locals → Z.ex = [] →
      (∀ (W : WX) (pn : List (Addr × Obj)) (xe : Value → Shared → Prop) (p1 p2 : Pos), Takes (Z.tr pn xe) W → PE (Z.tr pn xe) (.Call (.Name "call" p1) [] [] p2) (act W)) → PSs Z (defBody st) (t_result Z.K (fun y => ca (resL.idxOf y)) (ca 17) act))
    (R : ∀ j ∈ resL, ResC K (fun y => ca (resL.idxOf y)) (ca 17) j) : ResFx T fd ca b cf k K jr st resL where
  ps := hp
  fun_ := ez ▸ F
  sco := hs
  walk := walk
  cls := fun j y e => by
    refine ⟨?_, R y (List.mem_of_getElem? e)⟩
    obtain ⟨x, hx⟩ := hx j (List.getElem?_eq_some_iff.mp e).1
    rw [ec, (A0.ex j x hx).2, idx_resL e]
def tfL (lam : List Str) : List He.Defn := lam.map fun x => (x, none)
def tbK (K : PySem.W.Frag) (lam : List Str) : List (Addr × Str) := lam.map fun x => ((He.cT K (x, none)).2, x ++ ".<locals>." ++ "<lambda>")
def exK (lam ex : List Str) (res : Bool) (K : PySem.W.Frag) : Bool := decide ((tbK K lam).map (·.1)).Nodup && (!res || resB ex K)
theorem lamT {K : PySem.W.Frag} {base : Heap} {mg : Str → Option Value} {lam : List Str} {i : Nat} {x : Str} {f : Addr} {fd : FuncData} {params : Arguments} {body : List Stmt} {scope : Scope} (hx : lam[i]? = some x) (F : FunD K x x params body scope [] [] f fd) (ef : f = He.fAd K (x, none))
    (hB : ∀ p ∈ (tfL lam).map (He.cT K), LamX.TabB base mg p.1 p.2) : ∃ (c P : Addr) (i : Nat), LamX.TabB base mg c P ∧ fd.code = .ref c ∧ (tbK K lam)[i]? = some (P, x ++ ".<locals>." ++ "<lambda>") := by
  obtain ⟨oc, od, dV, kV, doc, pm, an, cdv, ct, osl, rfl, lk, hcd, _, _⟩ := F.ex
  obtain ⟨c, rfl⟩ := He.codeIn_ref hcd
  have e1 : He.codeOf K (x, none) = c := He.codeOf_eq (by rw [← ef]; exact lk) rfl
  refine ⟨c, (He.cT K (x, none)).2, i, ?_, rfl, ?_⟩
  · have := hB (He.cT K (x, none)) (List.mem_map.mpr ⟨(x, none), List.mem_map.mpr ⟨x, List.mem_of_getElem? hx, rfl⟩, rfl⟩)
    have e2 : (He.cT K (x, none)).1 = c := e1
    rw [e2] at this
    exact this
  · unfold tbK
    rw [List.getElem?_map, hx]
    rfl
theorem walk_ofX {l : PySem.W.OpenLaw} {n k : Nat} {q : Program} {loose : List Str} {XP : (Str → Option Value) → Heap → Prop} {YP : World → Heap → Prop} {d : DefRec} {CX : World → CXT} {x : Str}
    (hn : l.most = some n) (hn2 : n ≤ sizeLine) (hdf : d.params.defaults = []) (hr : Room k callerA)
    (F : ∀ (w : World) (mg : Str → Option Value) (fa : Addr) (h : Heap), YP w h → h.Ns mainGlobals mg → mg d.name = some (.ref fa) →
      ∃ (K : PySem.W.Frag) (fd : FuncData) (cs : List (Addr × Addr)) (sp : List Int → Addr → Sp), K.In h ∧ (∀ p ∈ cs, h.get? p.2 = some { cls := .none, data := .fields #[] }) ∧ (∀ p ∈ cs, K.lookup p.2 = none) ∧ (∀ p ∈ cs, PySem.W.CodeHd h p.1 p.2) ∧ (∀ (s : Shared) (u : Value), BindsTo s fd ⟨[u], []⟩ [(x, u)]) ∧
        (∀ (H : Hp) (a : Addr) (ns : List Int), ns.length ≤ n → (∀ p ∈ cs, H p.2 = some (.tbl #[])) → SqL K H a (ns.map V.int) → sp ns a [.ref a] H (fun v _ => v = .bl true) fun _ _ _ => False) ∧
        ∀ (ns : List Int) (a : Addr) (base : Heap), K.In base → base.Ns mainGlobals mg → (∀ p ∈ cs, LamX.TabB base mg p.1 p.2) → FnOk l.prog w K mg base (CX w) k fa fd [x] (sp ns a))
    (hCX : ∀ (w : World) (H : Hp) (s : Shared) (e : Value) (s' : Shared), CX w [] H s (fun _ _ _ => False) e s' → False) :
    PySem.W.WalkO q loose XP YP l.row.toRowW d [] (fun f vs => PySem.call f vs) := by
  refine Att.attach_callB hn hdf fun w s₀ s₁ mg mb fa o pm cd doc a vs ns G Y ho hd hcd hmg hobj hints hlen hbits hg => ?_
  obtain ⟨K, fd, cs, sp, KX, hT, nT, C, hb, hsp, hF⟩ := F w mg fa _ Y G.T.g hmg
  exact LamX.law_callTs KX G.T.g G.T.b G.T.builtins G.T.nolimit hg hT nT C G.T.bmain hobj hints (Nat.le_trans hlen hn2) hr (hF ns a) hb (fun H hH hS => hsp H a ns hlen hH hS) fun H e s' => hCX w H s₁ e s'
end Ev

set_option Elab.async false
set_option linter.all false
set_option maxRecDepth 100000
set_option autoImplicit false
namespace Ev
open PySem
/-- is_ascending(values); slots values, one, other -/
def f_is_ascending : Fn := ⟨1, 3, .cons (.ret (.bi .all (.comp (.op .lt (.pk 1) (.pk 2)) (.tup (.cons (.name 1) (.cons (.name 2) .nil))) (.zip (.var 0) (.sl (.pk 0) (.so (.int 1)) .no)) .yes [1, 2]))) .nil⟩
/-- is_integer(value); slots value -/
def f_is_integer : Fn := ⟨1, 1, .cons (.ret (.and (.isi .int (.pk 0)) (.not (.isi .bool (.pk 0))))) .nil⟩
/-- is_pair_of(sizes, value); slots sizes, value, one -/
def f_is_pair_of (i_is_integer : Nat) : Fn := ⟨2, 3, .cons (.ife (.or (.not (.val (.isi .tuple (.pk 1)))) (.or (.cmp .ne (.bi .len (.pk 1)) (.int 2)) (.not (.val (.bi .all (.comp (.call i_is_integer (.cons (.var 2) .nil)) (.name 2) (.seq (.var 1)) .yes [2])))))) (.cons (.ret .fa) .nil) .nil) (.cons (.ret (.and (.chain .le .lt (.int 0) (.ix (.pk 1) (.int 0)) (.bi .len (.pk 0))) (.chain .le .lt (.int 0) (.ix (.pk 1) (.int 1)) (.ix (.pk 0) (.ix (.pk 1) (.int 0)))))) .nil)⟩
/-- is_combination_of(sizes, value); slots sizes, value, one -/
def f_is_combination_of (i_is_ascending : Nat) (i_is_pair_of : Nat) : Fn := ⟨2, 3, .cons (.ife (.or (.not (.val (.isi .tuple (.pk 1)))) (.or (.cmp .eq (.pk 1) (.tup .nil)) (.not (.val (.bi .all (.comp (.call i_is_pair_of (.cons (.var 0) (.cons (.var 2) .nil))) (.name 2) (.seq (.var 1)) .yes [2])))))) (.cons (.ret .fa) .nil) .nil) (.cons (.ret (.call i_is_ascending (.cons (.comp (.ix (.pk 2) (.int 0)) (.name 2) (.seq (.var 1)) .yes [2]) .nil))) .nil)⟩
/-- is_model(value); slots value, sizes, forbidden, size, one -/
def f_is_model (i_is_ascending : Nat) (i_is_combination_of : Nat) (i_is_integer : Nat) : Fn := ⟨1, 5, .cons (.ife (.or (.not (.val (.isi .tuple (.pk 0)))) (.or (.cmp .ne (.bi .len (.pk 0)) (.int 2)) (.not (.val (.isi .tuple (.ix (.pk 0) (.int 0))))))) (.cons (.ret .fa) .nil) .nil) (.cons (.set (.tup (.cons (.name 1) (.cons (.name 2) .nil))) (.var 0)) (.cons (.ife (.or (.not (.chain .le .le (.int 2) (.bi .len (.pk 1)) (.int 5))) (.not (.val (.bi .all (.comp (.and (.call i_is_integer (.cons (.var 3) .nil)) (.chain .le .le (.int 2) (.pk 3) (.int 4))) (.name 3) (.seq (.var 1)) .yes [3]))))) (.cons (.ret .fa) .nil) .nil) (.cons (.ife (.or (.not (.val (.isi .tuple (.pk 2)))) (.cmp .gt (.bi .len (.pk 2)) (.gint "RULES" 8))) (.cons (.ret .fa) .nil) .nil) (.cons (.ret (.and (.bi .all (.comp (.call i_is_combination_of (.cons (.var 1) (.cons (.var 4) .nil))) (.name 4) (.seq (.var 2)) .yes [4])) (.call i_is_ascending (.cons (.var 2) .nil)))) .nil))))⟩
/-- _law_combination(script, town, sizes, most); slots script, town, sizes, most, found, k, parameter -/
def f_law_combination (i__law_draw : Nat) : Fn := ⟨4, 7, .cons (.setM 4 .dnew) (.cons (.for_ (.name 5) (.range1 (.op .add (.int 1) (.call i__law_draw (.cons (.var 0) (.cons (.var 1) (.cons (.var 3) .nil)))))) (.cons (.set (.name 6) (.call i__law_draw (.cons (.var 0) (.cons (.var 1) (.cons (.bi .len (.pk 2)) .nil))))) (.cons (.dput 4 (.var 6) (.call i__law_draw (.cons (.var 0) (.cons (.var 1) (.cons (.ix (.pk 2) (.pk 6)) .nil))))) .nil))) (.cons (.ret (.bi .tuple (.bi .sitems (.pk 4)))) .nil))⟩
/-- _law_model(script, town, many, values, rules); slots script, town, many, values, rules, sizes, some, k, one -/
def f_law_model (i__law_combination : Nat) (i__law_draw : Nat) : Fn := ⟨5, 9, .cons (.set (.name 5) (.bi .tuple (.comp (.op .add (.int 2) (.call i__law_draw (.cons (.var 0) (.cons (.var 1) (.cons (.op .sub (.pk 3) (.int 1)) .nil))))) (.name 7) (.range1 (.op .add (.int 2) (.call i__law_draw (.cons (.var 0) (.cons (.var 1) (.cons (.op .sub (.pk 2) (.int 1)) .nil)))))) .yes [7]))) (.cons (.set (.name 6) (.comp (.call i__law_combination (.cons (.var 0) (.cons (.var 1) (.cons (.var 5) (.cons (.int 3) .nil))))) (.name 7) (.range1 (.call i__law_draw (.cons (.var 0) (.cons (.var 1) (.cons (.op .add (.pk 4) (.int 1)) .nil))))) .yes [7])) (.cons (.ret (.tup (.cons (.var 5) (.cons (.bi .tuple (.bi .sset (.comp (.var 8) (.name 8) (.seq (.var 6)) (.one (.or (.cmp .gt (.bi .len (.pk 8)) (.int 1)) (.cmp .eq (.call i__law_draw (.cons (.var 0) (.cons (.var 1) (.cons (.int 3) .nil)))) (.int 0)))) [8]))) .nil)))) .nil))⟩
/-- _law_has(test, combination); slots test, combination, parameter, value_here -/
def f_law_has : Fn := ⟨2, 4, .cons (.ret (.op .eq (.comp (.int 1) (.tup (.cons (.name 2) (.cons (.name 3) .nil))) (.seq (.var 1)) (.one (.cmp .ne (.ix (.pk 0) (.pk 2)) (.pk 3))) [2, 3]) (.lst .nil))) .nil⟩
/-- _law_tests(model); slots model, rows, size, longer, value_here, row, rule -/
def f_law_tests (i__law_has : Nat) : Fn := ⟨1, 7, .cons (.set (.name 1) (.lst (.cons (.tup .nil) .nil))) (.cons (.for_ (.name 2) (.seq (.ix (.pk 0) (.int 0))) (.cons (.setM 3 (.lst .nil)) (.cons (.for_ (.name 4) (.range1 (.pk 2)) (.cons (.ext 3 (.comp (.op .add (.pk 5) (.tup (.cons (.var 4) .nil))) (.name 5) (.seq (.var 1)) .yes [5])) .nil)) (.frz 3 (.cons (.set (.name 1) (.var 3)) .nil))))) (.cons (.ret (.bi .sorted (.comp (.var 5) (.name 5) (.seq (.var 1)) (.one (.cmp .eq (.comp (.int 1) (.name 6) (.seq (.ix (.pk 0) (.int 1))) (.one (.val (.call i__law_has (.cons (.var 5) (.cons (.var 6) .nil))))) [6]) (.lst .nil))) [5]))) .nil))⟩
/-- check_model(model); slots model -/
def f_check_model (i_is_model : Nat) (x_InvalidModel : Nat) : Fn := ⟨1, 1, .cons (.ife (.not (.val (.call i_is_model (.cons (.var 0) .nil)))) (.cons (.raise x_InvalidModel) .nil) .nil) .nil⟩
/-- has_all(test, combination); slots test, combination, parameter, value -/
def f_has_all : Fn := ⟨2, 4, .cons (.ret (.bi .all (.comp (.op .eq (.ix (.pk 0) (.pk 2)) (.pk 3)) (.tup (.cons (.name 2) (.cons (.name 3) .nil))) (.seq (.var 1)) .yes [2, 3]))) .nil⟩
/-- is_test_of(model, value); slots model, value, sizes, forbidden, one, size, rule -/
def f_is_test_of (i_has_all : Nat) (i_is_integer : Nat) : Fn := ⟨2, 7, .cons (.set (.tup (.cons (.name 2) (.cons (.name 3) .nil))) (.var 0)) (.cons (.ife (.or (.not (.val (.isi .tuple (.pk 1)))) (.cmp .ne (.bi .len (.pk 1)) (.bi .len (.pk 2)))) (.cons (.ret .fa) .nil) .nil) (.cons (.ife (.not (.val (.bi .all (.comp (.and (.call i_is_integer (.cons (.var 4) .nil)) (.chain .le .lt (.int 0) (.pk 4) (.pk 5))) (.tup (.cons (.name 4) (.cons (.name 5) .nil))) (.zip (.var 1) (.var 2)) .yes [4, 5])))) (.cons (.ret .fa) .nil) .nil) (.cons (.ret (.not (.bi .any (.comp (.call i_has_all (.cons (.var 1) (.cons (.var 6) .nil))) (.name 6) (.seq (.var 3)) .yes [6])))) .nil)))⟩
/-- check_combination(model, combination); slots model, combination -/
def f_check_combination (i_is_combination_of : Nat) (x_InvalidCombination : Nat) : Fn := ⟨2, 2, .cons (.ife (.not (.val (.call i_is_combination_of (.cons (.ix (.pk 0) (.int 0)) (.cons (.var 1) .nil))))) (.cons (.raise x_InvalidCombination) .nil) .nil) .nil⟩
/-- _law_fails(hypothesis_here, test_here); slots hypothesis_here, test_here, fault -/
def f_law_fails (i__law_has : Nat) : Fn := ⟨2, 3, .cons (.ret (.op .ne (.comp (.int 1) (.name 2) (.seq (.var 0)) (.one (.val (.call i__law_has (.cons (.var 1) (.cons (.var 2) .nil))))) [2]) (.lst .nil))) .nil⟩
/-- is_result(model, value); slots model, value -/
def f_is_result (i_is_test_of : Nat) : Fn := ⟨2, 2, .cons (.ife (.or (.not (.val (.isi .tuple (.pk 1)))) (.cmp .ne (.bi .len (.pk 1)) (.int 2))) (.cons (.ret .fa) .nil) .nil) (.cons (.ret (.and (.call i_is_test_of (.cons (.var 0) (.cons (.ix (.pk 1) (.int 0)) .nil))) (.isi .bool (.ix (.pk 1) (.int 1))))) .nil)⟩
/-- check_results(model, results); slots model, results, good, one -/
def f_check_results (i_is_result : Nat) (x_InvalidResults : Nat) : Fn := ⟨2, 4, .cons (.set (.name 2) (.and (.isi .tuple (.pk 1)) (.op .le (.bi .len (.pk 1)) (.gint "RESULTS" 20)))) (.cons (.ife (.or (.not (.val (.pk 2))) (.not (.val (.bi .all (.comp (.call i_is_result (.cons (.var 0) (.cons (.var 3) .nil))) (.name 3) (.seq (.var 1)) .yes [3]))))) (.cons (.raise x_InvalidResults) .nil) .nil) .nil)⟩
/-- _law_results(script, town, tests, hypothesis, most_here); slots script, town, tests, hypothesis, most_here, found, k, test -/
def f_law_results (i__law_draw : Nat) (i__law_fails : Nat) : Fn := ⟨5, 8, .cons (.setM 5 (.lst .nil)) (.cons (.for_ (.name 6) (.range1 (.call i__law_draw (.cons (.var 0) (.cons (.var 1) (.cons (.op .add (.pk 4) (.int 1)) .nil))))) (.cons (.ife (.cmp .ne (.pk 2) (.lst .nil)) (.cons (.set (.name 7) (.ix (.pk 2) (.call i__law_draw (.cons (.var 0) (.cons (.var 1) (.cons (.bi .len (.pk 2)) .nil)))))) (.cons (.app 5 (.tup (.cons (.var 7) (.cons (.op .ne (.call i__law_fails (.cons (.var 3) (.cons (.var 7) .nil))) (.op .eq (.call i__law_draw (.cons (.var 0) (.cons (.var 1) (.cons (.int 15) .nil)))) (.int 0))) .nil)))) .nil)) .nil) .nil)) (.cons (.ret (.bi .tuple (.pk 5))) .nil))⟩
/-- _law_lines(results_here); slots results_here, rows, test, failed, one -/
def f_law_lines : Fn := ⟨1, 5, .cons (.setM 1 (.lst .nil)) (.cons (.for_ (.tup (.cons (.name 2) (.cons (.name 3) .nil))) (.seq (.var 0)) (.cons (.app 1 (.op .add (.op .add (.ite (.val (.pk 3)) (.str "fail") (.str "pass")) (.tx .join (.str "") (.comp (.op .add (.str " ") (.bi .stri (.pk 4))) (.name 4) (.seq (.var 2)) .yes [4]))) (.str "\n"))) .nil)) (.cons (.ret (.tx .join (.str "") (.pk 1))) .nil))⟩
/-- check_text(text); slots text -/
def f_check_text (x_InvalidText : Nat) : Fn := ⟨1, 1, .cons (.ife (.not (.val (.isi .str (.pk 0)))) (.cons (.raise x_InvalidText) .nil) .nil) .nil⟩
/-- rows_of(text); slots text -/
def f_rows_of (i_check_text : Nat) (x_InvalidText : Nat) : Fn := ⟨1, 1, .cons (.expr (.call i_check_text (.cons (.var 0) .nil))) (.cons (.ife (.and (.cmp .ne (.pk 0) (.str "")) (.cmp .ne (.ix (.pk 0) (.neg (.int 1))) (.str "\n"))) (.cons (.raise x_InvalidText) .nil) .nil) (.cons (.ret (.sl (.tx .split (.pk 0) (.str "\n")) .no (.so (.neg (.int 1))))) .nil))⟩
/-- number_of(text); slots text -/
def f_number_of (x_InvalidText : Nat) : Fn := ⟨1, 1, .cons (.ife (.or (.cmp .ne (.bi .len (.pk 0)) (.int 1)) (.cmp .notin (.pk 0) (.str "0123456789"))) (.cons (.raise x_InvalidText) .nil) .nil) (.cons (.ret (.bi .toint (.pk 0))) .nil)⟩
/-- read_numbers(text); slots text, word -/
def f_read_numbers (i_number_of : Nat) : Fn := ⟨1, 2, .cons (.ret (.bi .tuple (.compx (.call i_number_of (.cons (.var 1) .nil)) (.name 1) (.seq (.tx .split (.pk 0) (.str " "))) [1]))) .nil⟩
/-- parse_results(model, text); slots model, text, found, row, one -/
def f_parse_results (i_check_model : Nat) (i_is_result : Nat) (i_read_numbers : Nat) (i_rows_of : Nat) (x_InvalidText : Nat) : Fn := ⟨2, 5, .cons (.expr (.call i_check_model (.cons (.var 0) .nil))) (.cons (.setM 2 (.lst .nil)) (.cons (.for_ (.name 3) (.seq (.call i_rows_of (.cons (.var 1) .nil))) (.cons (.ife (.cmp .notin (.sl (.pk 3) .no (.so (.int 5))) (.tup (.cons (.str "fail ") (.cons (.str "pass ") .nil)))) (.cons (.raise x_InvalidText) .nil) .nil) (.cons (.app 2 (.tup (.cons (.call i_read_numbers (.cons (.sl (.pk 3) (.so (.int 5)) .no) .nil)) (.cons (.op .eq (.sl (.pk 3) .no (.so (.int 5))) (.str "fail ")) .nil)))) .nil))) (.frz 2 (.cons (.ife (.or (.cmp .gt (.bi .len (.pk 2)) (.int 20)) (.not (.val (.bi .all (.comp (.call i_is_result (.cons (.var 0) (.cons (.var 4) .nil))) (.name 4) (.seq (.var 2)) .yes [4]))))) (.cons (.raise x_InvalidText) .nil) .nil) (.cons (.ret (.bi .tuple (.pk 2))) .nil)))))⟩
/-- read_pairs(text); slots text, found, word -/
def f_read_pairs (i_number_of : Nat) (x_InvalidText : Nat) : Fn := ⟨1, 3, .cons (.setM 1 (.lst .nil)) (.cons (.for_ (.name 2) (.seq (.tx .split (.pk 0) (.str " "))) (.cons (.ife (.or (.cmp .ne (.bi .len (.pk 2)) (.int 3)) (.cmp .ne (.ix (.pk 2) (.int 1)) (.str "="))) (.cons (.raise x_InvalidText) .nil) .nil) (.cons (.app 1 (.tup (.cons (.call i_number_of (.cons (.ix (.pk 2) (.int 0)) .nil)) (.cons (.call i_number_of (.cons (.ix (.pk 2) (.int 2)) .nil)) .nil)))) .nil))) (.cons (.ret (.bi .tuple (.pk 1))) .nil))⟩
/-- parse_model(text); slots text, rows, model, row -/
def f_parse_model (i_is_model : Nat) (i_read_numbers : Nat) (i_read_pairs : Nat) (i_rows_of : Nat) (x_InvalidText : Nat) : Fn := ⟨1, 4, .cons (.set (.name 1) (.call i_rows_of (.cons (.var 0) .nil))) (.cons (.ife (.or (.cmp .eq (.pk 1) (.lst .nil)) (.or (.cmp .ne (.sl (.ix (.pk 1) (.int 0)) .no (.so (.int 6))) (.str "sizes ")) (.not (.val (.bi .all (.comp (.op .eq (.sl (.pk 3) .no (.so (.int 4))) (.str "not ")) (.name 3) (.seq (.sl (.pk 1) (.so (.int 1)) .no)) .yes [3])))))) (.cons (.raise x_InvalidText) .nil) .nil) (.cons (.set (.name 2) (.tup (.cons (.call i_read_numbers (.cons (.sl (.ix (.pk 1) (.int 0)) (.so (.int 6)) .no) .nil)) (.cons (.bi .tuple (.compx (.call i_read_pairs (.cons (.sl (.pk 3) (.so (.int 4)) .no) .nil)) (.name 3) (.seq (.sl (.pk 1) (.so (.int 1)) .no)) [3])) .nil)))) (.cons (.ife (.not (.val (.call i_is_model (.cons (.var 2) .nil)))) (.cons (.raise x_InvalidText) .nil) .nil) (.cons (.ret (.var 2)) .nil))))⟩
/-- parse_combination(model, text); slots model, text, found -/
def f_parse_combination (i_check_model : Nat) (i_check_text : Nat) (i_is_combination_of : Nat) (i_read_pairs : Nat) (x_InvalidText : Nat) : Fn := ⟨2, 3, .cons (.expr (.call i_check_model (.cons (.var 0) .nil))) (.cons (.expr (.call i_check_text (.cons (.var 1) .nil))) (.cons (.set (.name 2) (.call i_read_pairs (.cons (.var 1) .nil))) (.cons (.ife (.not (.val (.call i_is_combination_of (.cons (.ix (.pk 0) (.int 0)) (.cons (.var 2) .nil))))) (.cons (.raise x_InvalidText) .nil) .nil) (.cons (.ret (.var 2)) .nil))))⟩
/-- _law_by_hand(); slots odds, odd, model_here -/
def f_law_by_hand (i_parse_combination : Nat) (i_parse_model : Nat) (i_parse_results : Nat) : Fn := ⟨0, 3, .cons (.set (.name 0) (.lst (.cons (.str "") (.cons (.str "sizes 2\n") (.cons (.str "sizes 2 2") (.cons (.str "sizes 2  2\n") (.cons (.str "sizes 2 2\nnot \n") (.cons (.str "sizes 2 2\n\n") (.cons (.str "size 2 2\n") (.cons .none .nil)))))))))) (.cons (.set (.name 0) (.op .add (.pk 0) (.lst (.cons (.str "sizes 2 5\n") (.cons (.str "sizes 02 2\n") (.cons (.str "sizes 2 2\nnot 0=0 0=1\n") (.cons (.str "sizes 2 2\nnot 1=0 0=0\n") (.cons (.int 3) .nil)))))))) (.cons (.set (.name 0) (.op .add (.pk 0) (.lst (.cons (.str "sizes 2 2\nnot 0=0\nnot 0=0\n") (.cons (.str "sizes 2 2\n not 0=0\n") (.cons (.str "sizes 2 2\nnot 0=2\n") .nil)))))) (.cons (.for_ (.name 1) (.seq (.op .add (.pk 0) (.lst (.cons (.lst (.cons (.str "sizes 2 2\n") .nil)) (.cons (.str "sizes\n") .nil))))) (.cons (.ife (.cmp .ne (.lam resL (.call i_parse_model (.cons (.var 1) .nil))) (.tup (.cons (.str "text") .nil))) (.cons (.ret .fa) .nil) .nil) .nil)) (.cons (.set (.name 2) (.tup (.cons (.tup (.cons (.int 2) (.cons (.int 3) .nil))) (.cons (.tup (.cons (.tup (.cons (.tup (.cons (.int 0) (.cons (.int 1) .nil))) (.cons (.tup (.cons (.int 1) (.cons (.int 2) .nil))) .nil))) .nil)) .nil)))) (.cons (.for_ (.name 1) (.seq (.tup (.cons (.str "") (.cons (.str "0=0 ") (.cons (.str "0=0  1=0") (.cons (.str "1=0 0=0") (.cons (.str "0=2") (.cons (.str "2=0") (.cons (.str "0:0") (.cons (.str "0=") (.cons .none (.cons (.tup (.cons (.tup (.cons (.int 0) (.cons (.int 0) .nil))) .nil)) .nil)))))))))))) (.cons (.ife (.cmp .ne (.lam resL (.call i_parse_combination (.cons (.var 2) (.cons (.var 1) .nil)))) (.tup (.cons (.str "text") .nil))) (.cons (.ret .fa) .nil) .nil) .nil)) (.cons (.set (.name 0) (.lst (.cons (.str "pass 0 0") (.cons (.str "pass 1 2\n") (.cons (.str "pass 0\n") (.cons (.str "pass 0 0 \n") (.cons (.str "\n") (.cons (.str "Fail 0 0\n") (.cons (.str "fail 0 3\n") .nil))))))))) (.cons (.for_ (.name 1) (.seq (.op .add (.pk 0) (.lst (.cons (.op .mul (.str "pass 0 0\n") (.int 21)) (.cons .none .nil))))) (.cons (.ife (.cmp .ne (.lam resL (.call i_parse_results (.cons (.var 2) (.cons (.var 1) .nil)))) (.tup (.cons (.str "text") .nil))) (.cons (.ret .fa) .nil) .nil) .nil)) (.cons (.ife (.cmp .ne (.call i_parse_results (.cons (.var 2) (.cons (.str "") .nil))) (.tup .nil)) (.cons (.ret .fa) .nil) .nil) (.cons (.ife (.cmp .ne (.call i_parse_results (.cons (.var 2) (.cons (.op .mul (.str "pass 0 0\n") (.int 20)) .nil))) (.op .mul (.tup (.cons (.tup (.cons (.tup (.cons (.int 0) (.cons (.int 0) .nil))) (.cons .fa .nil))) .nil)) (.int 20))) (.cons (.ret .fa) .nil) .nil) (.cons (.ret (.op .eq (.call i_parse_model (.cons (.str "sizes 2 3\nnot 0=1 1=2\n") .nil)) (.pk 2))) .nil))))))))))⟩
/-- _law_pairs(combination_here); slots combination_here, parameter, value -/
def f_law_pairs : Fn := ⟨1, 3, .cons (.ret (.tx .join (.str " ") (.comp (.op .add (.op .add (.bi .stri (.pk 1)) (.str "=")) (.bi .stri (.pk 2))) (.tup (.cons (.name 1) (.cons (.name 2) .nil))) (.seq (.var 0)) .yes [1, 2]))) .nil⟩
/-- _law_text(model_here); slots model_here, rows, size, rule -/
def f_law_text (i__law_pairs : Nat) : Fn := ⟨1, 4, .cons (.set (.name 1) (.op .add (.op .add (.lst (.cons (.str "sizes") .nil)) (.comp (.op .add (.str " ") (.bi .stri (.pk 2))) (.name 2) (.seq (.ix (.pk 0) (.int 0))) .yes [2])) (.lst (.cons (.str "\n") .nil)))) (.cons (.ret (.tx .join (.str "") (.op .add (.pk 1) (.comp (.op .add (.op .add (.str "not ") (.call i__law_pairs (.cons (.var 3) .nil))) (.str "\n")) (.name 3) (.seq (.ix (.pk 0) (.int 1))) .yes [3])))) .nil)⟩
/-- combination_text(combination); slots combination, parameter, value -/
def f_combination_text : Fn := ⟨1, 3, .cons (.ret (.tx .join (.str " ") (.comp (.joined (.cons (.fval (.var 1)) (.cons (.str "=") (.cons (.fval (.var 2)) .nil)))) (.tup (.cons (.name 1) (.cons (.name 2) .nil))) (.seq (.var 0)) .yes [1, 2]))) .nil⟩
/-- format_combination(model, combination); slots model, combination -/
def f_format_combination (i_check_combination : Nat) (i_check_model : Nat) (i_combination_text : Nat) : Fn := ⟨2, 2, .cons (.expr (.call i_check_model (.cons (.var 0) .nil))) (.cons (.expr (.call i_check_combination (.cons (.var 0) (.cons (.var 1) .nil)))) (.cons (.ret (.call i_combination_text (.cons (.var 1) .nil))) .nil))⟩
/-- numbers_text(numbers); slots numbers, one -/
def f_numbers_text : Fn := ⟨1, 2, .cons (.ret (.tx .join (.str " ") (.comp (.bi .stri (.pk 1)) (.name 1) (.seq (.var 0)) .yes [1]))) .nil⟩
/-- results_text(results); slots results, words, test, failed, word, result -/
def f_results_text (i_numbers_text : Nat) : Fn := ⟨1, 6, .cons (.set (.name 1) (.comp (.ite (.val (.pk 3)) (.str "fail ") (.str "pass ")) (.tup (.cons (.name 2) (.cons (.name 3) .nil))) (.seq (.var 0)) .yes [2, 3])) (.cons (.ret (.tx .join (.str "") (.comp (.op .add (.op .add (.pk 4) (.call i_numbers_text (.cons (.ix (.pk 5) (.int 0)) .nil))) (.str "\n")) (.tup (.cons (.name 4) (.cons (.name 5) .nil))) (.zip (.var 1) (.var 0)) .yes [4, 5]))) .nil)⟩
/-- format_results(model, results); slots model, results -/
def f_format_results (i_check_model : Nat) (i_check_results : Nat) (i_results_text : Nat) : Fn := ⟨2, 2, .cons (.expr (.call i_check_model (.cons (.var 0) .nil))) (.cons (.expr (.call i_check_results (.cons (.var 0) (.cons (.var 1) .nil)))) (.cons (.ret (.call i_results_text (.cons (.var 1) .nil))) .nil))⟩
/-- model_text(model); slots model, rows, rule, row -/
def f_model_text (i_combination_text : Nat) (i_numbers_text : Nat) : Fn := ⟨1, 4, .cons (.set (.name 1) (.op .add (.lst (.cons (.op .add (.str "sizes ") (.call i_numbers_text (.cons (.ix (.pk 0) (.int 0)) .nil))) .nil)) (.comp (.op .add (.str "not ") (.call i_combination_text (.cons (.var 2) .nil))) (.name 2) (.seq (.ix (.pk 0) (.int 1))) .yes [2]))) (.cons (.ret (.tx .join (.str "") (.comp (.op .add (.pk 3) (.str "\n")) (.name 3) (.seq (.var 1)) .yes [3]))) .nil)⟩
/-- format_model(model); slots model -/
def f_format_model (i_check_model : Nat) (i_model_text : Nat) : Fn := ⟨1, 1, .cons (.expr (.call i_check_model (.cons (.var 0) .nil))) (.cons (.ret (.call i_model_text (.cons (.var 0) .nil))) .nil)⟩
/-- _law_changed(script, town, text_here); slots script, town, text_here, at, sign, some -/
def f_law_changed (i__law_draw : Nat) : Fn := ⟨3, 6, .cons (.set (.name 3) (.call i__law_draw (.cons (.var 0) (.cons (.var 1) (.cons (.op .add (.bi .len (.pk 2)) (.int 1)) .nil))))) (.cons (.set (.name 4) (.ix (.str "0123456789= \nnotpasfil") (.call i__law_draw (.cons (.var 0) (.cons (.var 1) (.cons (.int 22) .nil)))))) (.cons (.setM 5 (.lst (.cons (.op .add (.op .add (.sl (.pk 2) .no (.so (.pk 3))) (.pk 4)) (.sl (.pk 2) (.so (.pk 3)) .no)) (.cons (.op .add (.sl (.pk 2) .no (.so (.pk 3))) (.sl (.pk 2) (.so (.op .add (.pk 3) (.int 1))) .no)) .nil)))) (.cons (.app 5 (.op .add (.op .add (.sl (.pk 2) .no (.so (.pk 3))) (.pk 4)) (.sl (.pk 2) (.so (.op .add (.pk 3) (.int 1))) .no))) (.cons (.ret (.ix (.pk 5) (.call i__law_draw (.cons (.var 0) (.cons (.var 1) (.cons (.int 3) .nil)))))) .nil))))⟩
/-- law(script); slots script, town, model_here, combination_here, tests, results_here, one, two, three, k, some, result, text_here -/
def f_law_k32 (i__law_begun : Nat) (i__law_by_hand : Nat) (i__law_changed : Nat) (i__law_combination : Nat) (i__law_lines : Nat) (i__law_model : Nat) (i__law_pairs : Nat) (i__law_results : Nat) (i__law_tests : Nat) (i__law_text : Nat) (i_format_combination : Nat) (i_format_model : Nat) (i_format_results : Nat) (i_parse_combination : Nat) (i_parse_model : Nat) (i_parse_results : Nat) : Fn := ⟨1, 13, .cons (.set (.name 1) (.call i__law_begun .nil)) (.cons (.set (.name 2) (.call i__law_model (.cons (.var 0) (.cons (.var 1) (.cons (.int 5) (.cons (.int 4) (.cons (.int 3) .nil))))))) (.cons (.set (.name 3) (.call i__law_combination (.cons (.var 0) (.cons (.var 1) (.cons (.ix (.pk 2) (.int 0)) (.cons (.int 4) .nil)))))) (.cons (.set (.name 4) (.call i__law_tests (.cons (.var 2) .nil))) (.cons (.set (.name 5) (.call i__law_results (.cons (.var 0) (.cons (.var 1) (.cons (.var 4) (.cons (.tup (.cons (.var 3) .nil)) (.cons (.int 5) .nil))))))) (.cons (.par 6 7 false false (.call i__law_text (.cons (.var 2) .nil)) (.call i__law_pairs (.cons (.var 3) .nil))) (.cons (.set (.name 8) (.call i__law_lines (.cons (.var 5) .nil))) (.cons (.ife (.or (.cmp .ne (.call i_format_model (.cons (.var 2) .nil)) (.pk 6)) (.cmp .ne (.call i_parse_model (.cons (.var 6) .nil)) (.pk 2))) (.cons (.ret .fa) .nil) .nil) (.cons (.ife (.cmp .ne (.call i_format_combination (appEs (.cons (.var 2) .nil) (.cons (.var 3) .nil))) (.pk 7)) (.cons (.ret .fa) .nil) .nil) (.cons (.ife (.cmp .ne (.call i_parse_combination (appEs (.cons (.var 2) .nil) (.cons (.var 7) .nil))) (.pk 3)) (.cons (.ret .fa) .nil) .nil) (.cons (.ife (.cmp .ne (.call i_format_results (appEs (.cons (.var 2) .nil) (.cons (.var 5) .nil))) (.pk 8)) (.cons (.ret .fa) .nil) .nil) (.cons (.ife (.cmp .ne (.call i_parse_results (appEs (.cons (.var 2) .nil) (.cons (.var 8) .nil))) (.pk 5)) (.cons (.ret .fa) .nil) .nil) (.cons (.for_ (.name 9) (.range1 (.int 6)) (.cons (.set (.name 10) (.comp (.call i__law_changed (.cons (.var 0) (.cons (.var 1) (.cons (.var 12) .nil)))) (.name 12) (.seq (.tup (.cons (.var 6) (.cons (.var 7) (.cons (.var 8) .nil))))) .yes [12])) (.cons (.set (.name 11) (.lam resL (.call i_parse_model (.cons (.ix (.pk 10) (.int 0)) .nil)))) (.cons (.ife (.and (.cmp .ne (.pk 11) (.tup (.cons (.str "text") .nil))) (.or (.cmp .ne (.ix (.pk 11) (.int 0)) (.str "returns")) (.cmp .ne (.call i__law_text (.cons (.ix (.pk 11) (.int 1)) .nil)) (.ix (.pk 10) (.int 0))))) (.cons (.ret .fa) .nil) .nil) (.cons (.set (.name 11) (.lam resL (.call i_parse_combination (.cons (.var 2) (.cons (.ix (.pk 10) (.int 1)) .nil))))) (.cons (.ife (.and (.cmp .ne (.pk 11) (.tup (.cons (.str "text") .nil))) (.or (.cmp .ne (.ix (.pk 11) (.int 0)) (.str "returns")) (.cmp .ne (.call i__law_pairs (.cons (.ix (.pk 11) (.int 1)) .nil)) (.ix (.pk 10) (.int 1))))) (.cons (.ret .fa) .nil) .nil) (.cons (.set (.name 11) (.lam resL (.call i_parse_results (.cons (.var 2) (.cons (.ix (.pk 10) (.int 2)) .nil))))) (.cons (.ife (.and (.cmp .ne (.pk 11) (.tup (.cons (.str "text") .nil))) (.or (.cmp .ne (.ix (.pk 11) (.int 0)) (.str "returns")) (.cmp .ne (.call i__law_lines (.cons (.ix (.pk 11) (.int 1)) .nil)) (.ix (.pk 10) (.int 2))))) (.cons (.ret .fa) .nil) .nil) .nil)))))))) (.cons (.setM 5 (.lst (.cons (.lam resL (.call i_format_model (.cons .none .nil))) .nil))) (.cons (.app 5 (.lam resL (.call i_format_combination (.cons (.var 2) (.cons (.tup .nil) .nil))))) (.cons (.app 5 (.lam resL (.call i_format_results (.cons (.var 2) (.cons .none .nil))))) (.cons (.app 5 (.lam resL (.call i_parse_results (.cons (.tup .nil) (.cons (.str "") .nil))))) (.cons (.ife (.cmp .ne (.pk 5) (.lst (.cons (.tup (.cons (.str "model") .nil)) (.cons (.tup (.cons (.str "combination") .nil)) (.cons (.tup (.cons (.str "results") .nil)) (.cons (.tup (.cons (.str "model") .nil)) .nil)))))) (.cons (.ret .fa) .nil) .nil) (.cons (.ret (.call i__law_by_hand .nil)) .nil))))))))))))))))))⟩
end Ev

set_option Elab.async false
set_option linter.all false
set_option maxRecDepth 100000
set_option autoImplicit false
namespace Ev
open PySem PySem.Spec PyProof.Rows L2
section
variable {z : Zt} {m : Mu} {F : Fz} {H : Hp}
theorem FsR.look {f : Str} {d : D} : ∀ {fs : List (Str × SV)} {vs : List (Str × V)} {ls : List Addr}, FsR z m F H fs vs ls → fs.lookup f = some (.i d) → ∃ v, vs.lookup f = some v ∧ Rep z m F H v d
  | _, _, _, .nil, e => by cases e
  | _, _, _, .imm (f := g) r t, e => by
    rw [List.lookup_cons] at e ⊢
    cases h : f == g with
    | true =>
      rw [h] at e
      cases e
      exact ⟨_, rfl, r⟩
    | false =>
      rw [h] at e
      exact t.look e
  | _, _, _, .lst (f := g) h1 r t, e => by
    rw [List.lookup_cons] at e ⊢
    cases h : f == g with
    | true =>
      rw [h] at e
      cases e
    | false =>
      rw [h] at e
      exact t.look e
theorem FsR.lookL {f : Str} {xs : List D} : ∀ {fs : List (Str × SV)} {vs : List (Str × V)} {ls : List Addr}, FsR z m F H fs vs ls → fs.lookup f = some (.l xs) → ∃ a us, vs.lookup f = some (.ref a) ∧ a ∈ ls ∧ H a = some (.lst us) ∧ RepAll z m F H us xs
  | _, _, _, .nil, e => by cases e
  | _, _, _, .imm (f := g) r t, e => by
    rw [List.lookup_cons] at e ⊢
    cases h : f == g with
    | true =>
      rw [h] at e
      cases e
    | false =>
      rw [h] at e
      exact t.lookL e
  | _, _, _, .lst (f := g) h1 r t, e => by
    rw [List.lookup_cons] at e ⊢
    cases h : f == g with
    | true =>
      rw [h] at e
      cases e
      exact ⟨_, _, rfl, List.mem_cons_self, h1, r⟩
    | false =>
      rw [h] at e
      obtain ⟨a, us, q1, q2, q3⟩ := t.lookL e
      exact ⟨a, us, q1, List.mem_cons_of_mem _ q2, q3⟩
theorem FsR.no {f : Str} : ∀ {fs : List (Str × SV)} {vs : List (Str × V)} {ls : List Addr}, FsR z m F H fs vs ls → fs.lookup f = none → vs.lookup f = none
  | _, _, _, .nil, _ => rfl
  | _, _, _, .imm (f := g) r t, e => by
    rw [List.lookup_cons] at e ⊢
    cases h : f == g with
    | true => rw [h] at e; cases e
    | false => rw [h] at e; exact t.no e
  | _, _, _, .lst (f := g) h1 r t, e => by
    rw [List.lookup_cons] at e ⊢
    cases h : f == g with
    | true => rw [h] at e; cases e
    | false => rw [h] at e; exact t.no e
theorem FsR.len : ∀ {fs : List (Str × SV)} {vs : List (Str × V)} {ls : List Addr}, FsR z m F H fs vs ls → vs.length = fs.length
  | _, _, _, .nil => rfl
  | _, _, _, .imm r t => by rw [List.length_cons, List.length_cons, t.len]
  | _, _, _, .lst h1 r t => by rw [List.length_cons, List.length_cons, t.len]
/-- a field gets frozen data -/
theorem FsR.put {f : Str} {v : V} {d : D} (r : Rep z m F H v d) : ∀ {fs : List (Str × SV)} {vs : List (Str × V)} {ls : List Addr}, FsR z m F H fs vs ls → ∃ ls', ls'.Sublist ls ∧ FsR z m F H (putS f (.i d) fs) (putF f v vs) ls'
  | _, _, _, .nil => ⟨[], .slnil, .imm r .nil⟩
  | _, _, _, .imm (f := g) q t => by
    unfold putS putF
    by_cases h : g = f
    · rw [if_pos h, if_pos h]
      exact ⟨_, List.Sublist.refl _, .imm r t⟩
    · rw [if_neg h, if_neg h]
      obtain ⟨ls', s, t'⟩ := t.put (f := f) r
      exact ⟨ls', s, .imm q t'⟩
  | _, _, _, .lst (f := g) h1 q t => by
    unfold putS putF
    by_cases h : g = f
    · rw [if_pos h, if_pos h]
      exact ⟨_, List.sublist_cons_self _ _, .imm r t⟩
    · rw [if_neg h, if_neg h]
      obtain ⟨ls', s, t'⟩ := t.put (f := f) r
      exact ⟨_, s.cons_cons _, .lst h1 q t'⟩
/-- a field's own list is written in place -/
theorem FsR.write {f : Str} {a : Addr} {us : List V} {xs ys : List D} (hF : ¬ F a) (r : RepAll z m F H us ys) : ∀ {fs : List (Str × SV)} {vs : List (Str × V)} {ls : List Addr}, FsR z m F H fs vs ls → ls.Nodup → fs.lookup f = some (.l xs) → vs.lookup f = some (.ref a) →
    FsR z m F (upd H a (.lst us)) (putS f (.l ys) fs) vs ls
  | _, _, _, .nil, _, e, _ => by cases e
  | _, _, _, .imm (f := g) q t, nd, e, ev => by
    rw [List.lookup_cons] at e ev
    unfold putS
    cases h : f == g with
    | true => rw [h] at e; cases e
    | false =>
      rw [h] at e ev
      rw [if_neg fun k => by rw [k] at h; simp at h]
      exact .imm (q.mono (Kp.updA hF) (fun _ h => h) (fun _ _ h => h)) (t.write hF r nd e ev)
  | _, _, _, .lst (f := g) (a := c) h1 q t, nd, e, ev => by
    have nd' := List.nodup_cons.mp nd
    rw [List.lookup_cons] at e ev
    unfold putS
    cases h : f == g with
    | true =>
      rw [h] at e ev
      cases e
      cases ev
      rw [if_pos (beq_iff_eq.mp h).symm]
      refine .lst upd_same (r.mono (Kp.updA hF) (fun _ h => h) (fun _ _ h => h)) (t.fm (fun _ h => h) (Kp.updA hF) (fun _ _ h => h) fun b o hb ho => ?_)
      have hne : b ≠ a := fun k => nd'.1 (by rw [← k]; exact hb)
      rw [upd_ne hne]
      exact ho
    | false =>
      rw [h] at e ev
      rw [if_neg fun k => by rw [k] at h; simp at h]
      have ev : List.lookup f _ = some (V.ref a) := ev
      obtain ⟨a', _, g1, g2, _⟩ := t.lookL e
      rw [ev] at g1
      cases g1
      have hne : c ≠ a := fun k => nd'.1 (by rw [k]; exact g2)
      refine .lst ?_ (q.mono (Kp.updA hF) (fun _ h => h) (fun _ _ h => h)) (t.write hF r nd'.2 e ev)
      rw [upd_ne hne]
      exact h1
end
section
variable {z : Zt} {m : Mu} {F : Fz} {w : W} {H H' : Hp} {n : Nat} {a dx : Addr} {c : Nat}
theorem mainA_set {ls ls' : List Addr} (hm : m[n]? = some (a :: ls)) : ∀ k b, mainA m k = some b → mainA (m.set n (a :: ls')) k = some b := fun k b h => by
  unfold mainA at h ⊢
  by_cases e : k = n
  · subst e
    have hk : k < m.length := (List.getElem?_eq_some_iff.mp hm).1
    rw [hm] at h
    rw [List.getElem?_set_self hk]
    exact h
  · rw [List.getElem?_set_ne (Ne.symm e)]
    exact h
theorem mem_flat {as : List Addr} {b : Addr} (h : m[n]? = some as) (hb : b ∈ as) : b ∈ m.flatten := List.mem_flatten.mpr ⟨as, List.mem_of_getElem? h, hb⟩
/-- an instance is written -/
theorem Wf.inst {fs fs' : List (Str × SV)} {vs' : List (Str × V)} {ls ls' : List Addr} (wf : Wf z m F w H) (hm : m[n]? = some (a :: ls)) (hw : w[n]? = some (.inst c fs)) (ha : H' a = some (.ins z.ca dx vs')) (hf : FsR z m F H' fs' vs' ls') (nd : (a :: ls').Nodup)
    (hl : ∀ b ∈ ls', b ∈ ls ∨ H b = none) (hd' : ∀ b ∈ ls', ∃ o, H' b = some o) (ho : ∀ b o, H b = some o → b ∉ a :: ls → H' b = some o) (hd : ∀ b o, H b = some o → ∃ o', H' b = some o') :
    Wf z (m.set n (a :: ls')) F (w.set n (.inst 0 fs')) H' ∧ Fm m F H (m.set n (a :: ls')) F H' := by
  have hn : n < w.length := (List.getElem?_eq_some_iff.mp hw).1
  have hn' : n < m.length := (List.getElem?_eq_some_iff.mp hm).1
  have main := mainA_set (ls' := ls') hm
  have pw := List.pairwise_iff_getElem.mp (List.pairwise_flatten.mp wf.nd).2
  have dj : ∀ k as, m[k]? = some as → k ≠ n → ∀ b, b ∈ as → b ∉ a :: ls := fun k as hk hkn b hb hb' => by
    obtain ⟨k1, e1⟩ := List.getElem?_eq_some_iff.mp hk
    obtain ⟨k2, e2⟩ := List.getElem?_eq_some_iff.mp hm
    rcases Nat.lt_or_gt_of_ne hkn with q | q
    · exact (pw k n k1 k2 q) b (by rw [e1]; exact hb) b (by rw [e2]; exact hb') rfl
    · exact (pw n k k2 k1 q) b (by rw [e2]; exact hb') b (by rw [e1]; exact hb) rfl
  have dj' : ∀ k as, m[k]? = some as → k ≠ n → ∀ b, b ∈ as → b ∉ a :: ls' := fun k as hk hkn b hb hb' => by
    rcases List.mem_cons.mp hb' with e | e
    · exact dj k as hk hkn b hb (e ▸ List.mem_cons_self)
    · rcases hl b e with q | q
      · exact dj k as hk hkn b hb (List.mem_cons_of_mem _ q)
      · obtain ⟨o, h⟩ := wf.mdom b (mem_flat hk hb)
        rw [h] at q
        cases q
  have split : ∀ b, b ∈ (m.set n (a :: ls')).flatten → b ∈ a :: ls' ∨ ∃ k as, k ≠ n ∧ m[k]? = some as ∧ b ∈ as := fun b hb => by
    obtain ⟨as, h1, h2⟩ := List.mem_flatten.mp hb
    obtain ⟨k, hk⟩ := List.mem_iff_getElem?.mp h1
    by_cases e : k = n
    · subst e
      rw [List.getElem?_set_self hn'] at hk
      cases hk
      exact .inl h2
    · rw [List.getElem?_set_ne (Ne.symm e)] at hk
      exact .inr ⟨k, as, e, hk, h2⟩
  have keep : ∀ b o, H b = some o → b ∉ m.flatten → H' b = some o := fun b o h hb => ho b o h fun q => hb (mem_flat hm q)
  have keepF : ∀ b o, F b → H b = some o → H' b = some o := fun b o hF h => keep b o h fun q => wf.nF b q hF
  have hfl : a ∈ m.flatten := mem_flat hm List.mem_cons_self
  refine ⟨⟨by rw [List.length_set, List.length_set]; exact wf.len, fun k as mo h1 h2 => ?_, ?_, fun b hb => ?_, fun b h => ?_, fun b h => ?_, ?_, fun i p e => ?_⟩, ⟨keep, hd, fun b hb => ?_, main, fun _ h => h, fun _ h => .inl h⟩⟩
  · by_cases hk : k = n
    · subst hk
      rw [List.getElem?_set_self hn] at h2
      rw [List.getElem?_set_self hn'] at h1
      cases h1
      cases h2
      exact ⟨a, dx, vs', ls', rfl, ha, hf.fm (fun _ h => h) (fun _ _ _ h => h) main fun _ _ _ h => h⟩
    · rw [List.getElem?_set_ne (Ne.symm hk)] at h1 h2
      exact (wf.obj k as mo h1 h2).fm (fun b o hb h => ho b o h (dj k as h1 hk b hb)) (fun _ h => h) keepF main
  · refine List.pairwise_flatten.mpr ⟨fun as has => ?_, List.pairwise_iff_getElem.mpr fun i j hi hj hij x hx y hy e => ?_⟩
    · rcases List.mem_or_eq_of_mem_set has with q | q
      · exact (List.pairwise_flatten.mp wf.nd).1 as q
      · rw [q]
        exact nd
    · subst e
      rw [List.length_set] at hi hj
      rw [List.getElem_set] at hx hy
      split at hx
      · rename_i e1
        rw [if_neg (by omega)] at hy
        exact dj' j m[j] (List.getElem?_eq_getElem hj) (by omega) x hy hx
      · split at hy
        · rename_i e1 e2
          exact dj' i m[i] (List.getElem?_eq_getElem hi) (by omega) x hx hy
        · exact (pw i j hi hj hij) x hx x hy rfl
  · rcases split b hb with q | ⟨k, as, _, hk, hb⟩
    · rcases List.mem_cons.mp q with e | e
      · exact wf.nF b (e ▸ hfl)
      · rcases hl b e with q | q
        · exact wf.nF b (mem_flat hm (List.mem_cons_of_mem _ q))
        · intro hF
          obtain ⟨o, h⟩ := wf.dom b hF
          rw [h] at q
          cases q
    · exact wf.nF b (mem_flat hk hb)
  · obtain ⟨o, h'⟩ := wf.dom b h
    exact hd b o h'
  · rcases split b h with q | ⟨k, as, _, hk, hb⟩
    · rcases List.mem_cons.mp q with e | e
      · exact ⟨_, e ▸ ha⟩
      · exact hd' b e
    · obtain ⟨o, h'⟩ := wf.mdom b (mem_flat hk hb)
      exact hd b o h'
  · exact wf.scr.imp (fun ⟨h1, h2⟩ => ⟨h1, Rd.keep h2 fun o h => keepF _ o h1 h⟩) id
  · obtain ⟨e1, e2⟩ := wf.tab i p e
    have ne : n ≠ i + 1 := fun q => by
      rw [q, e2] at hw
      cases hw
    rw [List.getElem?_set_ne ne, List.getElem?_set_ne ne]
    exact ⟨e1, e2⟩
  · rcases split b hb with q | ⟨k, as, _, hk, hb⟩
    · rcases List.mem_cons.mp q with e | e
      · exact .inl (e ▸ hfl)
      · exact (hl b e).imp (fun q => mem_flat hm (List.mem_cons_of_mem _ q)) id
    · exact .inl (mem_flat hk hb)
/-- a new instance -/
theorem Wf.made (wf : Wf z m F w H) (h1 : H a = none) (h2 : H dx = none) (hne : dx ≠ a) : Wf z (m ++ [[a]]) F (w ++ [.inst 0 []]) (upd (upd H dx (.own a)) a (.ins z.ca dx [])) ∧ Fm m F H (m ++ [[a]]) F (upd (upd H dx (.own a)) a (.ins z.ca dx [])) ∧ mainA (m ++ [[a]]) w.length = some a := by
  have old : ∀ b o, H b = some o → upd (upd H dx (.own a)) a (.ins z.ca dx []) b = some o := fun b o h => by
    rw [upd_ne (ne_of_none h h1), upd_ne (ne_of_none h h2)]
    exact h
  have na := wf_new wf h1
  have fl : (m ++ [[a]]).flatten = m.flatten ++ [a] := by simp
  have main : ∀ k b, mainA m k = some b → mainA (m ++ [[a]]) k = some b := fun k b h => by
    unfold mainA at h ⊢
    have hk : k < m.length := by
      rcases Nat.lt_or_ge k m.length with q | q
      · exact q
      · rw [List.getElem?_eq_none q] at h
        cases h
    rw [List.getElem?_append_left hk]
    exact h
  refine ⟨⟨by simp [wf.len], fun k as mo e1 e2 => ?_, ?_, fun b hb => ?_, fun b h => ?_, fun b h => ?_, ?_, fun i p e => ?_⟩, ⟨fun b o h _ => old b o h, fun b o h => ⟨o, old b o h⟩, fun b hb => ?_, main, fun _ h => h, fun _ h => .inl h⟩, ?_⟩
  · rcases Nat.lt_trichotomy k m.length with q | q | q
    · rw [List.getElem?_append_left q] at e1
      rw [List.getElem?_append_left (wf.len ▸ q)] at e2
      exact (wf.obj k as mo e1 e2).fm (fun b o _ h => old b o h) (fun _ h => h) (fun b o _ h => old b o h) main
    · rw [List.getElem?_append_right (Nat.le_of_eq q.symm), q, Nat.sub_self] at e1
      rw [List.getElem?_append_right (by rw [← wf.len]; omega), ← wf.len, q, Nat.sub_self] at e2
      cases e1
      cases e2
      exact ⟨a, dx, [], [], rfl, upd_same, .nil⟩
    · rw [List.getElem?_eq_none (by simp; omega)] at e1
      cases e1
  · rw [fl]
    refine List.nodup_append.mpr ⟨wf.nd, by simp, fun x hx y hy e => ?_⟩
    have : y = a := by simpa using hy
    exact na.2 (by rw [← this, ← e]; exact hx)
  · rw [fl] at hb
    rcases List.mem_append.mp hb with q | q
    · exact wf.nF b q
    · have : b = a := by simpa using q
      rw [this]
      exact na.1
  · obtain ⟨o, h'⟩ := wf.dom b h
    exact ⟨o, old b o h'⟩
  · rw [fl] at h
    rcases List.mem_append.mp h with q | q
    · obtain ⟨o, h'⟩ := wf.mdom b q
      exact ⟨o, old b o h'⟩
    · have : b = a := by simpa using q
      rw [this]
      exact ⟨_, upd_same⟩
  · exact wf.scr.imp (fun ⟨h1, h2⟩ => ⟨h1, Rd.keep h2 fun o h => old _ o h⟩) id
  · obtain ⟨e1, e2⟩ := wf.tab i p e
    have hi : i + 1 < m.length := (List.getElem?_eq_some_iff.mp e1).1
    rw [List.getElem?_append_left hi, List.getElem?_append_left (wf.len ▸ hi)]
    exact ⟨e1, e2⟩
  · rw [fl] at hb
    rcases List.mem_append.mp hb with q | q
    · exact .inl q
    · have : b = a := by simpa using q
      rw [this]
      exact .inr h1
  · unfold mainA
    rw [← wf.len, List.getElem?_append_right (Nat.le_refl _), Nat.sub_self]
    rfl
end
end Ev

set_option Elab.async false
set_option linter.all false
set_option maxRecDepth 100000
set_option autoImplicit false
namespace Ev
open PySem PySem.Spec PyProof.Rows L2
section
variable {α β γ : Type} {b : Bx} {m : Mu} {F : Fz} {H : Hp} {w : W} {d : D} {f : Str}
end
def oB (T : Tb) (f : Str) : Bool := T.hc && decide (f ∈ T.fl)
def mB (T : Tb) (j : Nat) (m : Str) : Bool := T.hc && decide (j < T.fn.length) && decide (T.ng ≤ j) && decide (T.nm j = m)
section
variable {T : Tb} {fd : Nat → FuncData} {ca : Nat → Addr} {b : Bx} {cf : CF} {k fu : Nat} {X : Cx} {N : List Str} {sc : Scope} {fv : Str → Bool} (O : Ok T fd ca b cf k X N sc fv)
include O
theorem Ok.fl {f : Str} (h : oB T f = true) : Cls X.K b.z.ca ∧ NoAttr X.K b.z.ca f := by
  simp only [oB, Bool.and_eq_true, decide_eq_true_eq] at h
  exact ⟨(O.cs h.1).cl, (O.cs h.1).na f h.2⟩
theorem Ok.me {j : Nat} {m : Str} (h : mB T j m = true) : j < T.fn.length ∧ Cls X.K b.z.ca ∧ Meth X.K b.z.ca m (b.z.fa j) := by
  simp only [mB, Bool.and_eq_true, decide_eq_true_eq] at h
  obtain ⟨⟨⟨h1, h2⟩, h3⟩, h4⟩ := h
  exact ⟨h2, (O.cs h1).cl, h4 ▸ (O.cs h1).me j h2 h3⟩
variable {x f : Str} {i : Nat} {p1 p2 pos pos' : Pos}
end
end Ev

set_option Elab.async false
set_option linter.all false
set_option maxRecDepth 100000
set_option autoImplicit false
namespace Ev
open PySem PySem.Spec PyProof.Rows L2
section
variable {z : Zt} {m : Mu} {F : Fz} {H : Hp} {w : W} {n : Nat} {a l : Addr} {c : Nat}
theorem RepAll.dropLast : ∀ {vs : List V} {ds : List D}, RepAll z m F H vs ds → RepAll z m F H vs.dropLast ds.dropLast
  | _, _, .nil => .nil
  | _, _, .cons h .nil => .nil
  | _, _, .cons h (.cons h2 t) => .cons h (RepAll.dropLast (.cons h2 t))
end
section
variable {T : Tb} {fd : Nat → FuncData} {ca : Nat → Addr} {b : Bx} {cf : CF} {k fu : Nat} {X : Cx} {N : List Str} {sc : Scope} {fv : Str → Bool} (O : Ok T fd ca b cf k X N sc fv)
include O
variable {x f : Str} {i : Nat} {p1 p2 pos pos' apos cpos : Pos}
end
end Ev

set_option Elab.async false
set_option linter.all false
set_option maxRecDepth 100000
set_option autoImplicit false
namespace Ev
open PySem PySem.Spec PyProof.Rows L2
section
variable {X : Cx}
end
section
variable {T : Tb} {fd : Nat → FuncData} {ca : Nat → Addr} {b : Bx} {cf : CF} {k fu : Nat} {X : Cx} {N : List Str} {sc : Scope} {fv : Str → Bool} (O : Ok T fd ca b cf k X N sc fv)
include O
end
end Ev

set_option Elab.async false
set_option linter.all false
set_option maxRecDepth 100000
set_option autoImplicit false
namespace Ev
open PySem PySem.Spec PyProof.Rows L2
section
variable {T : Tb} {fd : Nat → FuncData} {ca : Nat → Addr} {b : Bx} {cf : CF} {k fu : Nat} {X : Cx} {N : List Str} {sc : Scope} {fv : Str → Bool} (O : Ok T fd ca b cf k X N sc fv)
include O
variable {x f : Str} {i : Nat} {p1 p2 pos pos' apos cpos : Pos}
theorem g_fval {e : Expr} {c : E} (he : PE X e (rE b (evE cf c))) : PE X (.FormattedValue e (-1) none pos) (rE b (evE cf (.fval c))) :=
  (pe_fmt he).imp fun σ H Q ⟨m, F, s, w, wf, sl, p⟩ => by
    have p : Post b m F H (bnd (evE cf c s) (fun x => lift (fvalD x)) w) (Rep b.z) Q := by simpa only [evE] using p
    refine ⟨m, F, s, w, wf, sl, (p.bind).imp fun x H1 ⟨m1, F1, d, w1, f1, wf1, r1, p1⟩ => ?_⟩
    obtain ⟨d', e', p2⟩ := p1.lift1
    unfold fvalD at e'
    split at e'
    · split at e'
      · rename_i i hi
        cases e'
        refine .inr ⟨i, (RepR.int (.inl r1)), ?_, p2.here wf1 (.str _)⟩
        have : i.natAbs < 2 ^ 1920 := Nat.lt_of_lt_of_le hi (by decide)
        by_cases h0 : i.natAbs = 0
        · rw [h0]; decide
        · exact (Nat.log2_lt h0).mpr this
      · cases e'
    · split at e'
      · rename_i y hy
        cases e'
        exact .inl ⟨y, (RepR.str (.inl r1)), by rw [← lim_eq]; exact hy, p2.here wf1 (.str _)⟩
      · cases e'
    · cases e'
end
/-- the parts' readings -/
def rJs (b : Bx) (cf : CF) : Es → List TE
  | .nil => []
  | .cons c cs => rE b (evE cf c) :: rJs b cf cs
section
variable {X : Cx} {b : Bx} [KEq X b.z] {cf : CF}
theorem js_pre : ∀ (cs : Es) (acc : Str) {m : Mu} {F : Fz} {H : Hp} {s : Sl} {σ : L2.St} {w : W} {Q : Str → Hp → Prop}, Wf b.z m F w H → SlR b.z m F b.H0 s σ H → 
    Post b m F H (evJ cf cs acc s w) (fun _ _ _ (x : Str) y => x = y) Q → tJs (rJs b cf cs) acc σ H Q
  | .nil, acc, m, F, H, s, σ, w, Q, wf, sl, p => by
    have p : Post b m F H (.ok acc w) (fun _ _ _ (x : Str) y => x = y) Q := by
      simp only [evJ] at p
      exact p
    exact p m F H acc (Fm.refl _ _ _) wf rfl
  | .cons c cs, acc, m, F, H, s, σ, w, Q, wf, sl, p => by
    have p : Post b m F H (bnd (evE cf c s) (fun x => bnd (lift (appS acc x)) fun a => evJ cf cs a s) w) (fun _ _ _ (x : Str) y => x = y) Q := by
      simp only [evJ] at p
      exact p
    refine ⟨m, F, s, w, wf, sl, (p.bind).imp fun x H1 ⟨m1, F1, d, w1, f1, wf1, r1, p1⟩ => ?_⟩
    obtain ⟨a, ea, p2⟩ := p1.lift
    cases d with
    | str y =>
      have ea : (if (acc ++ y).length ≤ LIM then some (acc ++ y) else none) = some a := ea
      split at ea
      · rename_i hl
        cases ea
        exact ⟨y, (RepR.str (.inl r1)), by rw [← lim_eq]; exact hl, js_pre cs (acc ++ y) wf1 (sl.fm wf f1) p2⟩
      · cases ea
    | _ => cases ea
theorem g_joined {v1 v2 : Expr} {rest : List Expr} {cs : Es} {pos : Pos} (h : PJ X (v1 :: v2 :: rest) (rJs b cf cs)) : PE X (.JoinedStr (v1 :: v2 :: rest) pos) (rE b (evE cf (.joined cs))) :=
  (pe_joined h).imp fun σ H Q ⟨m, F, s, w, wf, sl, p⟩ => by
    have p : Post b m F H (bnd (evJ cf cs Str.empty s) (fun y => ret (.str y)) w) (Rep b.z) Q := by simpa only [evE] using p
    refine js_pre cs Str.empty wf sl ((p.bind).imp fun x H1 ⟨m1, F1, d, w1, f1, wf1, r1, p1⟩ => ?_)
    have r1 : x = d := r1
    subst r1
    exact Post.here (d := .str x) p1 wf1 (.str _)
theorem pj_nil : PJ X [] (rJs b cf .nil) := .nil
theorem pj_cons {e : Expr} {es : List Expr} {c : E} {cs : Es} (he : PE X e (rE b (evE cf c))) (h : PJ X es (rJs b cf cs)) : PJ X (e :: es) (rJs b cf (.cons c cs)) := .cons he h
end
end Ev

set_option Elab.async false
set_option linter.all false
set_option maxRecDepth 100000
set_option autoImplicit false
namespace Ev
open PySem PySem.Spec PyProof.Rows L2
section
variable {z : Zt} {m : Mu} {F : Fz} {H : Hp} {K : PySem.W.Frag}
end
section
variable {T : Tb} {fd : Nat → FuncData} {ca : Nat → Addr} {b : Bx} {cf : CF} {k fu : Nat} {X : Cx} {N : List Str} {sc : Scope} {fv : Str → Bool} (O : Ok T fd ca b cf k X N sc fv)
include O
end
section
variable {X : Cx}
end
section
variable {T : Tb} {fd : Nat → FuncData} {ca : Nat → Addr} {b : Bx} {cf : CF} {k fu : Nat} {X : Cx} {N : List Str} {sc : Scope} {fv : Str → Bool} (O : Ok T fd ca b cf k X N sc fv)
include O
end
end Ev

set_option Elab.async false
set_option linter.all false
set_option maxRecDepth 100000
set_option autoImplicit false
namespace Ev
open PySem PySem.Spec PyProof.Rows L2
section
variable {X : Cx}
end
section
variable {prog : Program} {w : World} {A : Around} {E : Value → Shared → Prop} {s : Shared} {K : PySem.W.Frag} {x C f : Addr} {ox : Obj} {od : Option Obj}
end
section
variable {X : Cx}
end
end Ev

set_option Elab.async false
set_option linter.all false
set_option maxRecDepth 100000
set_option autoImplicit false
namespace Ev
open PySem PySem.Spec PyProof.Rows L2
section
variable {b : Bx} {m : Mu} {F : Fz} {H : Hp} {w : W} {α β : Type}
end
section
variable {T : Tb} {fd : Nat → FuncData} {ca : Nat → Addr} {b : Bx} {cf : CF} {k fu : Nat} {X : Cx} {N : List Str} {sc : Scope} {fv : Str → Bool} (O : Ok T fd ca b cf k X N sc fv)
include O
variable {a c : Expr} {ca' cb' : E} {j : Nat} {pos : Pos}
end
end Ev

set_option Elab.async false
set_option linter.all false
set_option maxRecDepth 100000
set_option autoImplicit false
namespace Ev
open PySem PySem.Spec PyProof.Rows L2

theorem relab_self {scope : Scope} {env : Env} (nf : ∀ p ∈ scope.names, p.2 ≠ .free) : relabel scope env = scope := by
  have e : scope.names.map (fun (n, k) => if (k == NameKind.free && env.scope.kind == .function && env.kindOf n == some .cell) then (n, NameKind.cell) else (n, k)) = scope.names := by
    conv => rhs; rw [← List.map_id scope.names]
    refine List.map_congr_left fun p hp => ?_
    have q := nf p hp
    obtain ⟨n, k⟩ := p
    have q' : (k == NameKind.free) = false := by
      cases k <;> first | rfl | exact absurd rfl q
    simp [q']
  unfold relabel
  rw [e]
theorem clo_none (cells : List (Str × Addr)) : ∀ (l : List (Str × NameKind)) (acc : List (Str × Addr)), (∀ p ∈ l, p.2 ≠ NameKind.free) → cloFrom cells l acc = acc
  | [], acc, _ => rfl
  | (n, k) :: r, acc, nf => by
    have q := nf (n, k) List.mem_cons_self
    have q' : (k == NameKind.free) = false := by
      cases k <;> first | rfl | exact absurd rfl q
    rw [cloFrom, q']
    exact clo_none cells r acc fun p hp => nf p (List.mem_cons_of_mem _ hp)

section
variable {M : Model} {A : Around} {E₁ : Value → Shared → Prop} {s : Shared} {env env' : Env} {outer : List Env} {L L' a : Addr} {B : Heap} {Z : Obj → Prop}
/-- the frame is noted, whatever frame was noted before -/
theorem note_from {Q : Unit → Shared → Prop} {fl : Value} (sz : HandSPX.Steady Z) (frm : A.frames = some (env :: outer)) (ef : env.frame = some L) (kb : B.StaysIn s.heap) (en : B.get? a = none)
    (ff : s.heap.FunFrames B (env :: outer)) (tr : HandSPX.TracedZ s.heap B a Z fl) (ne : (fl == rawInt L) = false)
    (fin : ∀ g, HandSPX.HeldZ B (env :: outer) a Z L g → s.heap.UpToSlots g → Q () { s with heap := g }) : wpAny M A (noteFrame (.ref a) env) Q E₁ s := by
  obtain ⟨ob, us, t, ot, rs, q1, q2, q3, q4, q5, q6, q7, q8, q9⟩ := tr
  have hsz : 3 < rs.size := (Array.getElem?_eq_some_iff.mp q9).1
  generalize hg : s.heap.update t (Obj.mapFields (·.setIfInBounds 3 Value.none)) = g1
  have away : ∀ c, c ≠ t → g1.get? c = s.heap.get? c := fun c hc => by
    rw [← hg]
    exact Heap.get?_update_other _ _ (Ne.symm hc)
  have plain : ∀ c o, s.heap.get? c = some o → (∀ ys, o.data ≠ .fields ys) → c ≠ t := fun c o e nf z => by
    subst z
    rw [q7] at e
    cases e
    exact nf rs q8
  unfold noteFrame
  rw [ef]
  refine wpAny_bind (wpAny_field q1 q3 q4 ?_)
  have n1 : (Value.ref t != Value.none) = true := by simp
  rw [if_pos n1]
  refine wpAny_bind (wpAny_field q7 q8 q9 ?_)
  rw [if_neg (by rw [ne]; exact Bool.false_ne_true)]
  refine wpAny_bind (wpAny_setField q7 q8 hsz ?_)
  rw [hg]
  refine HandSPX.wpAny_entryZ (oe := ob) (vs := us) sz frm (ff.of_keeps fun c o e nf => ⟨o, (away c (plain c o e nf)).trans e, rfl⟩) ef ((away a (Ne.symm q6)).trans q1) (fun c o e => (away c fun z => by rw [z, q5] at e; cases e).trans (kb c o e)) en q3 (Array.getElem?_eq_some_iff.mp q4).1 q2 fun g2 nt => ?_
  obtain ⟨k1, k2, k3, k4⟩ := nt
  exact fin g2 ⟨k1, en, k2, k3⟩ fun c o e nf => k4 c o ((away c (plain c o e nf)).trans e) nf
theorem note_same (ef : env'.frame = env.frame) (e : Value) : noteFrame e env' = noteFrame e env := by
  unfold noteFrame PySem.frameOf
  rw [ef]
theorem note_sky {Q : Unit → Shared → Prop} (sz : HandSPX.Steady Z) (frm : A.frames = some (env :: outer)) (ef : env.frame = some L) (ef' : env'.frame = env.frame) (sky : Sky B (env :: outer) a Z L' s.heap)
    (fin : ∀ g, HandSPX.HeldZ B (env :: outer) a Z L g → s.heap.UpToSlots g → Q () { s with heap := g }) : wpAny M A (noteFrame (.ref a) env') Q E₁ s := by
  rw [note_same ef']
  rcases sky with ⟨kb, nb, ff, ob, us, e1, e2, e3, e4⟩ | fly | held
  · exact HandSPX.look_newZ sz frm ff ef e1 kb nb e3 e4 e2 fin
  · exact HandSPX.looks_onZ sz frm ef fly fin
  · obtain ⟨k1, k2, k3, k4⟩ := held
    by_cases hL : L' = L
    · subst hL
      exact HandSPX.againZ ef k4 (fin s.heap ⟨k1, k2, k3, k4⟩ (Heap.UpToSlots.refl _))
    · exact note_from sz frm ef k1 k2 k3 k4 (by
        simp only [rawInt, beq_eq_false_iff_ne, ne_eq, Value.int.injEq, and_true]
        intro q
        exact hL (by exact_mod_cast q)) fin
end

theorem frames_but {h g B : Heap} {C : Addr} : ∀ {l : List Env}, h.FunFrames B l → (∀ b, b ≠ C → g.get? b = h.get? b) → C ∉ frs l → g.FunFrames (PySem.W.hideAll B [C]) l
  | [], _, _, _ => trivial
  | env :: l, ⟨k, ⟨L, o, ef, nb, e, nf⟩, r⟩, kp, nc => by
    have hL : L ∈ frs (env :: l) := List.mem_filterMap.mpr ⟨env, List.mem_cons_self, ef⟩
    have neC : L ≠ C := fun z => nc (z ▸ hL)
    refine ⟨k, ⟨L, o, ef, ?_, (kp L neC).trans e, nf⟩, frames_but r kp fun z => nc ?_⟩
    · cases q : (PySem.W.hideAll B [C]).get? L with
      | none => rfl
      | some u =>
        have z := PySem.W.of_hideAll _ q
        rw [nb] at z
        cases z
    · obtain ⟨x, hx, q⟩ := List.mem_filterMap.mp z
      exact List.mem_filterMap.mpr ⟨x, List.mem_cons_of_mem _ hx, q⟩

/-- the context of a comprehension's block whose step may raise -/
abbrev blkX (X : Cx) (s : Shared) (H : Hp) (scope : Scope) (ce : Env) (fp : List Addr) (xe : Value → Shared → Prop) : Cx := (X.blk s H scope ce fp).tr [] xe
/-- what comes of a block -/
def endB (X : Cx) (ce : Env) (Qf : Value → Shared → Prop) (acc : Value) (r : Result) (s' : Shared) : Prop :=
  ∃ m, s'.heap.Ns ce.locals m ∧ ∀ h', Heap.SameBut ce.locals s'.heap h' → match r with
    | .ok _ => Qf acc { s' with heap := h' }
    | .error x => wpAny (model X.prog X.w) X.A (passOn "comprehension.variables-let-go" x ce) Qf X.xe { s' with heap := h' }
abbrev xeB (X : Cx) (ce : Env) (Qf : Value → Shared → Prop) (acc : Value) : Value → Shared → Prop := notedBy (model X.prog X.w) X.A ce fun e s' => endB X ce Qf acc (.error e) s'

section
variable {X : Cx} {pins : List (Addr × Obj)} {σ : L2.St} {H : Hp} {s : Shared} {scope : Scope} {ce : Env} {fp : List Addr} {E : XK} {Qf : Value → Shared → Prop} {acc : Value}
/-- what a block's step lets out is taken by the def -/
theorem takes_blk (st : X.stack = X.env :: X.outer) (hf : X.env.frame = some X.env.locals) (tk : Takes X (fun cls d _ H => E cls d H)) (I : Inv X pins σ H s) (ef : ce.frame = X.env.frame) (eL : ce.locals = s.heap.objs.size)
    (hfp : ∀ b ∈ fp, FpOk X pins H b) : Takes (blkX X s H scope ce fp (xeB X ce Qf acc)) (fun cls d _ H => E cls d H) := by
  rintro u s1 ⟨a, B, sI, pins', σ', H', cls, d, rfl, J, nb, up, sky, na, os, ag, w⟩
  have frm : X.A.frames = some (X.env :: X.outer) := by rw [I.ok.frames, st]
  have sky : Sky B (X.env :: X.outer) a (Zc cls d) ce.locals s1.heap := by rw [← st]; exact sky
  show wpAny (model X.prog X.w) X.A (noteFrame (.ref a) ce) _ _ s1
  refine note_sky Zc.steady frm hf ef sky fun g held up2 => ?_
  have nb' : ∀ b o, sI.heap.get? b = some o → b ∉ frs X.stack → B.get? b = some o := nb
  have J2 : Inv (blkX X s H scope ce fp (xeB X ce Qf acc)) pins' σ' H' { s1 with heap := g } := J.landed nb held.1 (up.trans up2) os ag
  obtain ⟨mm, ns, _⟩ := J2.loc
  refine ⟨mm, ns, fun h' sb => ?_⟩
  generalize hC : ce.locals = C at sb eL
  have nC : H' C = none := by
    have z : H' ce.locals = none := J.free
    rw [← hC]
    exact z
  -- C is no frame, and not the exception
  have hCs : C = s.heap.objs.size := eL
  have nfr : C ∉ frs (X.env :: X.outer) := fun hm => by
    rw [← st] at hm
    obtain ⟨_, o, e, _⟩ := I.stack.mem hm
    have lt := Heap.lt_size e
    rw [hCs] at lt
    exact absurd lt (Nat.lt_irrefl _)
  obtain ⟨k1, k2, k3, ob, us, t, ot, rs, q1, q2, q3, q4, q5, q6, q7, q8, q9⟩ := held
  obtain ⟨oC, es, ep, eC, dC, _⟩ := ns
  have eC : g.get? C = some oC := by rw [← hC]; exact eC
  have aC : a ≠ C := fun z => by
    rw [z, eC] at q1
    cases q1
    rw [dC] at q3
    cases q3
  have tC : t ≠ C := fun z => by
    rw [z, eC] at q7
    cases q7
    rw [dC] at q8
    cases q8
  have kp : ∀ b, b ≠ C → h'.get? b = g.get? b := fun b hb => sb.2 b hb
  have hid : ∀ b o, (PySem.W.hideAll B [C]).get? b = some o → b ≠ C ∧ B.get? b = some o := fun b o e => by
    refine ⟨fun z => ?_, PySem.W.of_hideAll _ e⟩
    rw [z, PySem.W.hideAll_none _ (by simp)] at e
    cases e
  have hidN : ∀ b, B.get? b = none → (PySem.W.hideAll B [C]).get? b = none := fun b e => by
    cases q : (PySem.W.hideAll B [C]).get? b with
    | none => rfl
    | some o =>
      rw [(hid b o q).2] at e
      cases e
  have held2 : HandSPX.HeldZ (PySem.W.hideAll B [C]) (X.env :: X.outer) a (Zc cls d) X.env.locals h' :=
    ⟨fun b o e => (kp b (hid b o e).1).trans (k1 b o (hid b o e).2), hidN a k2, frames_but k3 kp nfr, ob, us, t, ot, rs, (kp a aC).trans q1, q2, q3, q4, hidN t q5, q6, (kp t tC).trans q7, q8, q9⟩
  unfold PySem.passOn
  refine wpAny_bind (wpAny_field ((kp a aC).trans q1) q3 q4 ?_)
  have n1 : ¬ ((Value.ref t == Value.none) = true) := by simp
  rw [if_neg n1]
  have I2 : Inv X pins σ H' sI := I.call' (ch := fp) J.os J.base J.hok J.bare fun b hb => ⟨(hfp b hb).2.2.2.1, (hfp b hb).2.1, (hfp b hb).2.2.2.2.1, (hfp b hb).2.2.2.2.2⟩
  obtain ⟨f0, f1, _, f3, f4, f5⟩ := I.fpOk (b := C) (Nat.le_of_eq hCs.symm) nC
  have hidI : ∀ b o, (PySem.W.hideAll sI.heap [C]).get? b = some o → b ≠ C ∧ sI.heap.get? b = some o := fun b o e => by
    refine ⟨fun z => ?_, PySem.W.of_hideAll _ e⟩
    rw [z, PySem.W.hideAll_none _ (by simp)] at e
    cases e
  have I3 : Inv X pins σ H' { sI with heap := PySem.W.hideAll sI.heap [C], toks := sI.toks } := I2.turned (it := C) (fun b o hb e => PySem.W.hideAll_get _ e (by simpa using hb)) f0 f1 f3 f4 f5
  have step : ∀ s3 : Shared, s3.heap = h' → s3.os = s1.os → s3.gens = s1.gens → wpAny (model X.prog X.w) X.A (do setFlight (.ref a) ce.frame; throw (.ref a) : Sem Value) Qf X.xe s3 := fun s3 e1 e2 e3 => by
    refine wpAny_bind ?_
    rw [ef, hf]
    refine HandSPX.setFlight_onZ (by rw [e1]; exact held2) fun h3 held3 up3 => ?_
    refine wpAny_throw (tk _ _ ⟨a, PySem.W.hideAll B [C], _, pins, σ, H', cls, d, rfl, I3, fun b o e hb => ?_, fun b o e nf => ?_, .inr (.inr (by rw [st]; exact held3)), na, e2.trans os, by rw [show ({ s3 with heap := h3 } : Shared).gens = s3.gens from rfl, e3]; exact ag, w⟩)
    · obtain ⟨z1, z2⟩ := hidI b o e
      exact PySem.W.hideAll_get _ (nb' b o z2 hb) (by simpa using z1)
    · obtain ⟨z1, z2⟩ := hidI b o e
      obtain ⟨sl, z3⟩ := up.trans up2 b o z2 nf
      have z4 : s3.heap.get? b = some { o with slots := sl } := by rw [e1, kp b z1]; exact z3
      obtain ⟨sl2, z5⟩ := up3 b _ z4 nf
      exact ⟨sl2, z5⟩
  first
    | exact wpAny_bind (wpAny_pure (step _ rfl rfl rfl))
    | exact step _ rfl rfl rfl
/-- [elt for target in iter], the step may raise -/
theorem pe_lcX {elt tg iter : Expr} {own : List (Str × Nat)} {pos : Pos} {wi : TI} {g : TG} {te : TE} (st : X.stack = X.env :: X.outer) (hf : X.env.frame = some X.env.locals) (tk : Takes X (fun cls d _ H => E cls d H)) (calm : X.calm = true)
    (nd : X.N.Nodup) (nf : ∀ p ∈ scope.names, p.2 ≠ .free) (hi : PI X tg iter wi) (ok : BlkOk X.N X.env.scope scope own)
    (hg : ∀ (s : Shared) (H : Hp) (C : Addr) (cl : List (Str × Addr)) (fp : List Addr) (xe : Value → Shared → Prop), Takes (blkX X s H scope (compEnvC scope cl C X.env) fp xe) (fun cls d _ H => E cls d H) → PG (blkX X s H scope (compEnvC scope cl C X.env) fp xe) tg g)
    (he : ∀ (s : Shared) (H : Hp) (C : Addr) (cl : List (Str × Addr)) (fp : List Addr) (xe : Value → Shared → Prop), Takes (blkX X s H scope (compEnvC scope cl C X.env) fp xe) (fun cls d _ H => E cls d H) → PE (blkX X s H scope (compEnvC scope cl C X.env) fp xe) elt te)
    (hs : ∀ x, foldedSetIterable iter X.env x = pure x) : PE X (.ListComp elt [⟨tg, iter, [], 0⟩] scope pos) (tLc wi g tYes te (own.map (·.2))) := by
  refine ⟨fun pins s σ H Q I h => ?_⟩
  refine wpAny_ListComp nf ok.kind (fun y hy e => (ok.uniq y hy).trans (congrArg some e)) (thn (hi.run pins s σ H _ I h) fun xv s1 hx => thn hx fun itv s2 h2 => ?_) hs
  obtain ⟨it, fp, tn, J, H2, rfl, I2, T, st2, f2, q⟩ := h2
  refine wpAny_newObj_type (newEnv_comp ?_) (by show 0 ≤ sizeLine; decide)
  generalize hD : s2.heap.objs.size = D
  have D0 : H2 D = none := I2.hok.fresh (Nat.le_of_eq hD)
  obtain ⟨W, ⟨m0, w0⟩, turn⟩ := q D D0
  generalize hs3 : ({ s2 with heap := s2.heap.push { cls := .type "list", data := .seq ([] : List Value).toArray } } : Shared) = s3
  have h3 : s3.heap = s2.heap.push { cls := .type "list", data := .seq ([] : List Value).toArray } := by rw [← hs3]
  have I3 : Inv X pins σ (upd H2 D (.lst [])) s3 := by
    subst hs3
    refine I2.laid (t' := s2.toks) (fun b o e => Heap.get?_push_of_some _ e) (Nat.le_of_eq hD) ⟨Nat.zero_le _, [], 0, .nil, ?_⟩
    subst hD
    exact Heap.get?_push_size _ rfl
  have lt2 : ∀ b ∈ fp, b < s2.heap.objs.size := fun b hb => by
    obtain ⟨o, e, _⟩ := T.obj _ _ st2 b hb
    exact Heap.lt_size e
  have neD : ∀ b ∈ fp, b ≠ D := fun b hb => by
    have lt := lt2 b hb
    intro q
    rw [q, ← hD] at lt
    exact absurd lt (Nat.lt_irrefl _)
  generalize hH3 : upd H2 D (.lst []) = H3 at I3 w0
  have f3 : ∀ b ∈ fp, FpOk X pins H3 b ∧ b < s3.heap.objs.size := fun b hb => by
    refine ⟨⟨?_, (f2 b hb).2⟩, by rw [h3, Heap.size_push]; exact Nat.lt_succ_of_lt (lt2 b hb)⟩
    rw [← hH3, upd_ne (neD b hb)]
    exact (f2 b hb).1
  have st3 : tn 0 s3.heap := T.keep _ _ _ st2 fun b _ o e => by rw [h3]; exact Heap.get?_push_of_some _ e
  have I4 := block_start (scope := scope) I3 ok nd f3
  rw [clo_none _ _ _ nf] at I4
  -- the block
  have body : ∀ ce : Env, ce = compEnvC scope (cellsFrom (s3.heap.objs.size + 1) scope.names []) s3.heap.objs.size X.env →
      codeAny (model X.prog X.w) X.A (.compStart (.ListComp elt [⟨tg, iter, [], 0⟩] scope pos) 0 (.ref it) (.ref D) ce) (endB X ce (EP X pins σ Q) (.ref D)) { s3 with heap := pushCells (s3.heap.push { cls := .type "dict", data := .dict #[] }) scope.names } := fun ce hce => by
    rw [← hce] at I4
    have ef : ce.frame = X.env.frame := by rw [hce]; rfl
    have eL : ce.locals = s3.heap.objs.size := by rw [hce]; rfl
    have tkB := takes_blk (Qf := EP X pins σ Q) (acc := .ref D) (scope := scope) st hf tk I3 ef eL fun b hb => (f3 b hb).1
    have pg := hg s3 H3 s3.heap.objs.size (cellsFrom (s3.heap.objs.size + 1) scope.names []) fp (xeB X ce (EP X pins σ Q) (.ref D)) (by rw [← hce]; exact tkB)
    have pe := he s3 H3 s3.heap.objs.size (cellsFrom (s3.heap.objs.size + 1) scope.names []) fp (xeB X ce (EP X pins σ Q) (.ref D)) (by rw [← hce]; exact tkB)
    rw [← hce] at pg pe
    generalize hs4 : ({ s3 with heap := pushCells (s3.heap.push { cls := .type "dict", data := .dict #[] }) scope.names } : Shared) = s4 at I4 ⊢
    have st4 : tn 0 s4.heap := T.keep _ _ _ st3 fun b _ o e => by rw [← hs4]; exact pushCells_keeps _ _ _ _ (Heap.get?_push_of_some _ e)
    have I5 : Inv (blkX X s3 H3 scope ce fp (xeB X ce (EP X pins σ Q) (.ref D))) [] (L2.wipe σ (own.map (·.2))) H3 s4 := I4.toTry _
    have stat : ∀ {σ' : L2.St} {H' : Hp} {s' : Shared}, Inv (blkX X s3 H3 scope ce fp (xeB X ce (EP X pins σ Q) (.ref D))) [] σ' H' s' → (∀ b ∈ fp, H' b = none) → ∀ b ∈ fp, FpOk (blkX X s3 H3 scope ce fp (xeB X ce (EP X pins σ Q) (.ref D))) [] H' b := fun {σ' H' s'} I' hn b hb =>
      ⟨hn b hb, (I'.ok.exf b hb).1, I'.ok.exfs b hb, .inl hb, fun x c e => (I'.ok.exf b hb).2 x c e, fun p hp => absurd (show p ∈ ([] : List (Addr × Obj)) from hp) (by simp)⟩
    have loop : codeAny (model X.prog X.w) X.A (.compLoop (.ListComp elt [⟨tg, iter, [], 0⟩] scope pos) 0 (.ref it) (.ref D) ce) (endB X ce (EP X pins σ Q) (.ref D)) s4 := by
      refine compLoop_any (fun n s' => ∃ i H', Inv (blkX X s3 H3 scope ce fp (xeB X ce (EP X pins σ Q) (.ref D))) [] (L2.wipe σ (own.map (·.2))) H' s' ∧ tn i s'.heap ∧ (∀ b ∈ fp, H' b = none) ∧ W i n H') ?_ m0 ⟨0, H3, I5, st4, fun b hb => (f3 b hb).1.1, w0⟩
      rintro n s5 ⟨i, H5, J5, st5, n5, w5⟩
      rcases turn i n H5 w5 with ⟨stop, qq⟩ | ⟨go, Nx, hNx, step⟩
      · refine thnF (T.done (blkX X s3 H3 scope ce fp (xeB X ce (EP X pins σ Q) (.ref D))) rfl rfl rfl calm i [] s5 _ H5 (fun _ _ => False) J5 (stat J5 n5) st5 stop) fun r s6 ⟨hr, J6⟩ => ?_
        subst hr
        have I7 : Inv X pins σ H5 s6 := I3.call' (ch := fp) J6.os J6.base J6.hok J6.bare fun b hb => ⟨(f3 b hb).1.2.2.2.1, (f3 b hb).1.2.1, (f3 b hb).1.2.2.2.2.1, (f3 b hb).1.2.2.2.2.2⟩
        have nC : H5 s3.heap.objs.size = none := by
          have z : H5 ce.locals = none := J6.free
          rw [eL] at z
          exact z
        obtain ⟨mm, ns, _⟩ := J6.loc
        obtain ⟨z0, z1, _, z3, z4, z5⟩ := I3.fpOk (Nat.le_refl _) nC
        refine ⟨mm, ns, fun h'' sb => ⟨.ref D, H5, I7.turned (t' := s6.toks) (fun b o hb e => (sb.2 b (by rw [eL]; exact hb)).trans e) z0 z1 z3 z4 z5, rfl, qq⟩⟩
      · refine thnF (T.item (blkX X s3 H3 scope ce fp (xeB X ce (EP X pins σ Q) (.ref D))) rfl rfl rfl calm i [] s5 _ H5 (fun _ _ => False) J5 (stat J5 n5) st5 go) fun r s6 ⟨u, hr, h6⟩ => ?_
        subst hr
        refine thnF h6 fun _ s7 ⟨x, H7, J7, r7, y7, st7, n7⟩ => ?_
        have J8 := J7.pinned (stat J7 n7) (T.obj _ _ st7)
        refine wpAny_mono (pg.run _ s7 _ H7 x u _ J8 r7 (step x H7 y7)) (fun _ s8 ⟨σ8, H8, J9, hw8, q8⟩ => ?_) fun _ _ z => z
        refine wpAny_mono ((pts_nil (X := blkX X s3 H3 scope ce fp (xeB X ce (EP X pins σ Q) (.ref D)))).run _ s8 σ8 H8 _ J9 q8) (fun bb s9 ⟨H9, J10, q9⟩ => ?_) fun _ _ z => z
        have fin : ∀ {s' : Shared} {H' : Hp}, Inv (blkX X s3 H3 scope ce fp (xeB X ce (EP X pins σ Q) (.ref D))) ([] ++ pinsAt fp s7.heap) σ8 H' s' → Nx H' → ∃ m, m < n ∧ ∃ i H', Inv (blkX X s3 H3 scope ce fp (xeB X ce (EP X pins σ Q) (.ref D))) [] (L2.wipe σ (own.map (·.2))) H' s' ∧ tn i s'.heap ∧ (∀ b ∈ fp, H' b = none) ∧ W i m H' := fun {s' H'} J' nx => by
          obtain ⟨m', hm, w'⟩ := hNx H' nx
          have still : ∀ b ∈ fp, ∀ o, s7.heap.get? b = some o → s'.heap.get? b = some o ∧ H' b = none := fun b hb o e => by
            have z := J'.pin (b, o) (List.mem_append_right _ (List.mem_append_right _ (mem_pinsAt hb e)))
            exact ⟨z.1, z.2.1⟩
          have hl : (L2.wipe σ (own.map (·.2))).length = σ8.length := by rw [← hw8, wipe_length]
          refine ⟨m', hm, i + 1, H', (J'.unpinned (pins := [])).weak hl (fun j v e => by rw [← hw8] at e; exact (wipe_some e).1), T.keep _ _ _ st7 fun b hb o e => (still b hb o e).1, fun b hb => ?_, w'⟩
          obtain ⟨o, e, _⟩ := T.obj _ _ st7 b hb
          exact (still b hb o e).2
        cases bb with
        | false =>
          simp only [Bool.false_eq_true, if_false] at q9 ⊢
          exact fin J10 q9
        | true =>
          simp only [if_true] at q9 ⊢
          refine wpAny_mono (pe.run _ s9 σ8 H9 _ J10 q9) (fun z s10 ⟨yv, H10, J11, r10, ac, hD10, hz10, nx⟩ => ?_) fun _ _ z => z
          exact app_ok (X := blkX X s3 H3 scope ce fp (xeB X ce (EP X pins σ Q) (.ref D))) J11 hD10 hz10 r10 fun s11 J12 => fin J12 nx
    exact codeAny_compStart_list loop (T.self X.A 0 _ _ _ st4 loop)
  refine codeAny_mono (body _ ?_) fun r s' hr => ?_
  · unfold compEnvC
    rw [relab_self nf]
    rfl
  · exact hr
end
end Ev

set_option Elab.async false
set_option linter.all false
set_option maxRecDepth 100000
set_option autoImplicit false
namespace Ev
open PySem PySem.Spec PyProof.Rows L2
section
variable {z : Zt} {m : Mu} {F : Fz} {H : Hp}
theorem RepAll.strs : ∀ {vs : List V} {ds : List D} {ys : List Str}, RepAll z m F H vs ds → strsD ds = some ys → vs = ys.map V.str
  | _, _, _, .nil, h => by
    cases h
    rfl
  | _, _, _, .cons (d := d) h t, e => by
    unfold strsD at e
    split at e
    · rename_i q
      cases q
    · rename_i q
      cases q
      obtain ⟨ys', e1, rfl⟩ := Option.map_eq_some_iff.mp e
      cases h
      rw [RepAll.strs t e1]
      rfl
    · cases e
theorem repAll_strs : ∀ ys : List Str, RepAll z m F H (ys.map V.str) (ys.map PyData.str)
  | [] => .nil
  | y :: ys => .cons (.str y) (repAll_strs ys)
theorem strD_some {x y : D} (h : strD x = some y) : ∃ s, x = .str s ∧ y = .str s := by
  cases x <;> first | (cases h; exact ⟨_, rfl, rfl⟩) | cases h
end
section
variable {X : Cx} {b : Bx} [KEq X b.z]
theorem cd_stri : CallR X (.type "str") (rC1 b striD) := by
  intro pins s σ H xs us Q I r ⟨m, F, w, v, d, ex, wf, hr, p⟩
  subst ex
  obtain ⟨d', e, p⟩ := p.lift1
  unfold striD at e
  split at e
  · rename_i i
    split at e
    · rename_i hi
      cases e
      have ev := hr.int
      subst ev
      refine call_str_int pins s σ H _ us Q I r ⟨i, rfl, ?_, p.here wf (.str _)⟩
      have : i.natAbs.log2 < 30 := by
        rcases Nat.eq_zero_or_pos i.natAbs with h0 | h0
        · rw [h0]; decide
        · exact (Nat.log2_lt (by omega)).mpr (by omega)
      omega
    · cases e
  · cases e
theorem cd_toint : CallR X (.type "int") (rC1 b tointD) := by
  intro pins s σ H xs us Q I r ⟨m, F, w, v, d, ex, wf, hr, p⟩
  subst ex
  obtain ⟨d', e, p⟩ := p.lift1
  unfold tointD at e
  split at e
  · split at e
    · rename_i hl
      obtain ⟨n, e1, rfl⟩ := Option.map_eq_some_iff.mp e
      have ev := hr.str
      subst ev
      exact call_int_str pins s σ H _ us Q I r ⟨_, n, rfl, e1, hl, p.here wf (.int _)⟩
    · cases e
  · cases e
theorem md_split : MtR X "str.split" (fun x xs H Q => ∃ y, xs = [y] ∧ rOp b (txD .split) x y H Q) := by
  intro pins s σ H x xs v us Q I rx rs h
  obtain ⟨y, rfl, m, F, w, dx, dy, wf, hx, hy, p0⟩ := h
  obtain ⟨d, e, p⟩ := p0.lift1
  clear p0
  unfold txD at e
  split at e
  · rename_i ea eb
    split at e
    · rename_i hl
      cases e
      have ex := hx.str
      have ey := hy.str
      subst ex
      subst ey
      refine mt_split pins s σ H _ _ v us Q I rx rs ⟨_, _, rfl, rfl, by simpa using hl.1, by rw [← lim_eq]; exact hl.2, fun q hq => p.lst wf (repAll_strs _) q hq⟩
    · cases e
  · contradiction
  · contradiction
  · cases e
theorem md_join : MtR X "str.join" (fun x xs H Q => ∃ y, xs = [y] ∧ rOp b (txD .join) x y H Q) := by
  intro pins s σ H x xs v us Q I rx rs h
  obtain ⟨y, rfl, m, F, w, dx, dy, wf, hx, hy, p0⟩ := h
  obtain ⟨d, e, p⟩ := p0.lift1
  clear p0
  unfold txD at e
  split at e
  · contradiction
  · obtain ⟨ds, e1, e⟩ := Option.bind_eq_some_iff.mp e
    obtain ⟨ys, e2, e⟩ := Option.bind_eq_some_iff.mp e
    split at e
    · rename_i hl
      cases e
      have ex := hx.str
      subst ex
      unfold seqO at e1
      split at e1
      · cases e1
        obtain ⟨a, vs, rfl, h1, h2⟩ := hy.list
        have ev := h2.strs e2
        subst ev
        exact mt_join pins s σ H _ _ v us Q I rx rs ⟨_, a, ys, rfl, rfl, .inl (.inl (.inl h1)), hl, p.here wf (.str _)⟩
      · cases e1
        obtain ⟨a, vs, rfl, h1, h2⟩ := hy.tuple
        have ev := h2.strs e2
        subst ev
        exact mt_join pins s σ H _ _ v us Q I rx rs ⟨_, a, ys, rfl, rfl, .inr (h1.sq KEq.eq), hl, p.here wf (.str _)⟩
      · cases e1
    · cases e
  · contradiction
  · cases e
/-- a method of a text with one argument -/
theorem se_tx {cf : CF} {o : Tx} {id : String} {name : Str} {a c : Expr} {ca cb : E} {apos pos : Pos} (slot : Slot "str" name id) (ty : typeOf (.builtin id) = pure (.type "method_descriptor")) (rule : MtR X id (fun x xs H Q => ∃ y, xs = [y] ∧ rOp b (txD o) x y H Q))
    (ha : PE X a (rR b (evE cf ca))) (hc : PE X c (rR b (evE cf cb))) (hs : notStar c = true) (hbase : attributeBase a name X.env (eval a X.env) = eval a X.env) (hl : (apos.endLine == pos.line) = true) :
    PE X (.Call (.Attribute a name apos) [c] [] pos) (rE b (evE cf (.tx o ca cb))) :=
  (pe_m1 slot ty rule ha hc (star_cons hs) hbase hl).imp fun σ H Q ⟨m, F, s, w, wf, sl, p⟩ => by
    have p : Post b m F H (bnd (evE cf ca s) (fun x => bnd (lift (strD x)) fun x => bnd (evE cf cb s) fun y => lift (txD o x y)) w) (Rep b.z) Q := by simpa only [evE] using p
    refine ⟨m, F, s, w, wf, sl, (p.bind).imp fun x H1 ⟨m1, F1, dx, w1, f1, wf1, r1, p1⟩ => ?_⟩
    obtain ⟨dx', e, p2⟩ := p1.lift
    obtain ⟨y, rfl, rfl⟩ := strD_some e
    refine ⟨⟨y, r1.str⟩, m1, F1, s, w1, wf1, sl.fm wf f1, (p2.bind).imp fun u H2 ⟨m2, F2, dy, w2, f2, wf2, r2, p3⟩ => ?_⟩
    exact ⟨u, rfl, m2, F2, w2, _, dy, wf2, wf1.rr r1 f2, r2, p3⟩

def turnX (cf : CF) (elt : E) (tg : Tg) (s : Sl) (d : D) : M (Option D) := bnd (lift (bindT tg d s)) fun s' => bnd (evE cf elt s') fun x => ret (some x)
theorem comp_preX {cf : CF} {own : List (Str × Nat)} {tgc : Tg} {itc : I} {ec : E} {σ : L2.St} {H : Hp} {Q : VK} (hsl : ∀ j ∈ slotsT tgc, j ∈ own.map (·.2)) (h : rE b (evE cf (.compx ec tgc itc (own.map (·.2)))) σ H Q) :
    tLc (rI b (g := isTT tgc) (evI cf itc)) (rG b tgc) tYes (rE b (evE cf ec)) (own.map (·.2)) σ H Q := by
  have e0 : evE cf (.compx ec tgc itc (own.map (·.2))) = fun s => bnd (evI cf itc s) fun ds => bnd (compL (turnX cf ec tgc (wipeA s (own.map (·.2)))) ds) fun r => ret (.list r) := by
    funext s
    simp only [evE]
    rfl
  rw [e0] at h
  obtain ⟨m, F, s, w, wf, sl, p⟩ := h
  refine ⟨m, F, s, w, wf, sl, (p.bind).imp fun J H1 ⟨m1, F1, ds, w1, f1, wf1, goes, p1⟩ => ?_⟩
  intro D hD
  obtain ⟨hlen, goes⟩ := goes
  generalize hf : turnX cf ec tgc (wipeA s (own.map (·.2))) = f at p1
  refine ⟨fun i k Hc => k + i = ds.length ∧ ∃ m2 F2 w2 acc rs, Fm m1 F1 H1 m2 F2 Hc ∧ Wf b.z m2 F2 w2 Hc ∧ ¬ F2 D ∧ D ∉ m2.flatten ∧ Hc D = some (.lst acc) ∧ RepAll b.z m2 F2 Hc acc rs ∧ acc.length ≤ i ∧
    Post b m1 F1 H1 (bnd (compL f (ds.drop i)) (fun r => ret (.list (rs ++ r))) w2) (Rep b.z) Q, ⟨ds.length, rfl, m1, F1, w1, [], [], Fm.laid hD, wf1.laid hD, ?_, ?_, upd_same, .nil, Nat.le_refl _, ?_⟩, ?_⟩
  · intro hF
    obtain ⟨o, ho⟩ := wf1.dom D hF
    rw [hD] at ho; cases ho
  · intro hm
    obtain ⟨o, ho⟩ := wf1.mdom D hm
    rw [hD] at ho; cases ho
  · exact p1
  · rintro i k Hc ⟨hk, m2, F2, w2, acc, rs, f2, wf2, nF, nM, hacc, hr, hai, pc⟩
    obtain ⟨stop, go⟩ := goes m2 F2 Hc w2 (wf1.fk f2) wf2
    by_cases hi : i < ds.length
    · refine .inr ?_
      have ed : ds[i]? = some ds[i] := List.getElem?_eq_getElem hi
      rw [List.drop_eq_getElem_cons hi] at pc
      generalize hd : ds[i] = d at ed pc
      obtain ⟨g1, g2⟩ := go i d ed
      have key : ∃ s', bindT tgc d (wipeA s (own.map (·.2))) = some s' := by
        cases e1 : bindT tgc d (wipeA s (own.map (·.2))) with
        | none =>
          have : f d w2 = .bad := by
            rw [← hf]
            unfold turnX
            rw [e1]
            rfl
          rw [bnd_bad (compL_bad this)] at pc
          exact pc.elim
        | some s' => exact ⟨s', rfl⟩
      obtain ⟨s', e1⟩ := key
      have ef : f d w2 = bnd (evE cf ec s') (fun x => ret (some x)) w2 := by
        rw [← hf]
        unfold turnX
        rw [e1]
        rfl
      refine ⟨g1, fun Hn => ds.length - (i + 1) + (i + 1) = ds.length ∧ ∃ m2 F2 w2 acc rs, Fm m1 F1 H1 m2 F2 Hn ∧ Wf b.z m2 F2 w2 Hn ∧ ¬ F2 D ∧ D ∉ m2.flatten ∧ Hn D = some (.lst acc) ∧ RepAll b.z m2 F2 Hn acc rs ∧ acc.length ≤ i + 1 ∧
        Post b m1 F1 H1 (bnd (compL f (ds.drop (i + 1))) (fun r => ret (.list (rs ++ r))) w2) (Rep b.z) Q, fun Hn hn => ⟨ds.length - (i + 1), by omega, hn⟩, fun x H3 hy => ?_⟩
      obtain ⟨F3, f3, wf3, r3⟩ := g2 x H3 hy
      have fh3 := f1.trans (f2.trans f3)
      refine ⟨m2, F3, wipeA s (own.map (·.2)), w2, d, s', wf3, (sl.fm wf fh3).wipe _, r3, e1, fun σ2 sr2 l2 ag2 => ⟨?_, ?_⟩⟩
      · rw [wipe_agree (own.map (·.2)) l2 fun j hj => ag2 j fun hm => hj (hsl j hm)]
        exact wipe_wipe _ _
      unfold tYes
      show (if (true : Bool) = true then rE b (evE cf ec) σ2 H3 _ else _)
      rw [if_pos rfl]
      refine ⟨m2, F3, s', w2, wf3, sr2, ?_⟩
      cases e3 : evE cf ec s' w2 with
      | ok x5 w5 =>
        intro m6 F6 H6 v6 f6 wf6 r6
        have f36 := f3.trans f6
        have hacc6 := f36.keep D _ hacc nM
        have nM6 := f36.out hacc nM
        have nF6 : ¬ F6 D := fun q => by
          rcases f36.fnew D q with z | z
          · exact nF z
          · rw [hacc] at z; cases z
        refine ⟨acc, hacc6, by omega, by omega, m6, F6, w5, acc ++ [v6], rs ++ [x5], (f2.trans f36).updNew hD, wf6.updA nF6 nM6, nF6, nM6, upd_same, ?_, by rw [List.length_append, List.length_singleton]; omega, ?_⟩
        · exact ((wf2.repAll f36 hr).append (.cons r6 .nil)).mono (Kp.updA nF6) (fun _ h => h) (fun _ _ h => h)
        · have ef2 : f d w2 = .ok (some x5) w5 := ef.trans (bnd_ok e3)
          have : (bnd (compL f (d :: ds.drop (i + 1))) fun r => ret (PyData.list (rs ++ r))) w2 = (bnd (compL f (ds.drop (i + 1))) fun r => ret (PyData.list (rs ++ [x5] ++ r))) w5 := by
            have e4 := compL_some (ds := ds.drop (i + 1)) ef2
            cases e5 : compL f (ds.drop (i + 1)) w5 with
            | ok r w6 =>
              rw [bnd_ok (e4.trans (bnd_ok e5)), bnd_ok e5, List.append_assoc]
              rfl
            | exc _ _ => rw [bnd_exc (e4.trans (bnd_exc e5)), bnd_exc e5]
            | bad => rw [bnd_bad (e4.trans (bnd_bad e5)), bnd_bad e5]
          rw [this] at pc
          exact pc
      | exc c5 w5 =>
        rw [bnd_exc (compL_exc (ef.trans (bnd_exc e3)))] at pc
        exact fun m' F' H' f' wf' => pc m' F' H' (f2.trans (f3.trans f')) wf'
      | bad =>
        rw [bnd_bad (compL_bad (ef.trans (bnd_bad e3)))] at pc
        exact pc.elim
    · refine .inl ?_
      have ei : i = ds.length := by omega
      subst ei
      refine ⟨stop, ?_⟩
      rw [List.drop_length] at pc
      have pc : Post b m1 F1 H1 (.ok (.list (rs ++ [])) w2) (Rep b.z) Q := pc
      rw [List.append_nil] at pc
      exact pc m2 (frzA F2 D) Hc _ (f2.frz0 hD) (wf2.frz hacc nM) (.lst (.inr rfl) hacc (hr.mono (Kp.refl _ _) (fun _ h => .inl h) (fun _ _ h => h)))
end

section
variable {T : Tb} {fd : Nat → FuncData} {ca : Nat → Addr} {b : Bx} {cf : CF} {k fu : Nat} {X : Cx} {N : List Str} {sc : Scope} {fv : Str → Bool}
theorem Ok.blkX (O : Ok T fd ca b cf k X N sc fv) (s : Shared) (H : Hp) (scope : Scope) (hk : scope.kind = .function) (C : Addr) (cl : List (Str × Addr)) (fp : List Addr) (xe : Value → Shared → Prop)
    (tk : Takes (blkX X s H scope (compEnvC scope cl C X.env) fp xe) (fun cls d _ H => b.E cls d H)) :
    Ok T fd ca b cf k (blkX X s H scope (compEnvC scope cl C X.env) fp xe) N (relS scope sc) (fun x => scope.names.lookup x == some .cell) where
  eN := O.eN
  nd := O.nd
  esc := by rw [← O.esc]; rfl
  kd := hk
  efv := rfl
  calm := O.calm
  room := O.room
  rm2 := O.rm2
  cs := O.cs
  ew := O.ew
  eK := O.eK
  tk := tk
  fns := O.fns
  mgf := O.mgf
  kp := O.kp
  bd := O.bd
  kb := O.kb
  bl := O.bl
  gi := O.gi
  ex := O.ex
variable (O : Ok T fd ca b cf k X N sc fv)
include O
variable {e a c : Expr} {ca' cb' : E} {x : Str} {i : Nat} {pos p1 p2 apos : Pos}
theorem g_stri (ha : PE X a (rR b (evE cf ca'))) (h : bB T sc "str" = true := by decide +kernel) (hs : notStar a = true := by rfl) : PE X (.Call (.Name "str" p1) [a] [] pos) (rE b (evE cf (.bi .stri ca'))) := se_bt cd_stri (O.blt h).1 (O.blt h).2.1 rfl ha hs (by decide) (by decide)
theorem g_toint (ha : PE X a (rR b (evE cf ca'))) (h : bB T sc "int" = true := by decide +kernel) (hs : notStar a = true := by rfl) : PE X (.Call (.Name "int" p1) [a] [] pos) (rE b (evE cf (.bi .toint ca'))) := se_bt cd_toint (O.blt h).1 (O.blt h).2.1 rfl ha hs (by decide) (by decide)
theorem g_split (ha : PE X a (rR b (evE cf ca'))) (hc : PE X c (rR b (evE cf cb'))) (hs : notStar c = true := by rfl) (hbase : attributeBase a "split" X.env (eval a X.env) = eval a X.env := by rfl) (hl : (apos.endLine == pos.line) = true := by rfl) :
    PE X (.Call (.Attribute a "split" apos) [c] [] pos) (rE b (evE cf (.tx .split ca' cb'))) := se_tx F.slot_str_split F.type_str_split md_split ha hc hs hbase hl
theorem g_join (ha : PE X a (rR b (evE cf ca'))) (hc : PE X c (rR b (evE cf cb'))) (hs : notStar c = true := by rfl) (hbase : attributeBase a "join" X.env (eval a X.env) = eval a X.env := by rfl) (hl : (apos.endLine == pos.line) = true := by rfl) :
    PE X (.Call (.Attribute a "join" apos) [c] [] pos) (rE b (evE cf (.tx .join ca' cb'))) := se_tx F.slot_str_join F.type_str_join md_join ha hc hs hbase hl
def nfB (scope : Scope) : Bool := scope.names.all fun p => !(p.2 == .free)
variable {tg iter elt : Expr} {scope : Scope} {own : List (Str × Nat)} {tgc : Tg} {itc : I} {ec : E}
theorem g_compx (S : StF X) (hi : PI X tg iter (rI b (g := isTT tgc) (evI cf itc)))
    (hg : ∀ X', Ok T fd ca b cf k X' N (relS scope sc) (fun x => scope.names.lookup x == some .cell) → PG X' tg (rG b tgc))
    (he : ∀ X', Ok T fd ca b cf k X' N (relS scope sc) (fun x => scope.names.lookup x == some .cell) → PE X' elt (rE b (evE cf ec)))
    (hb : blkC N sc scope own = true := by decide +kernel) (hs : slB tgc own = true := by decide +kernel) (hn : notSet iter = true := by rfl) (hf : nfB scope = true := by decide +kernel) :
    PE X (.ListComp elt [⟨tg, iter, [], 0⟩] scope pos) (rE b (evE cf (.compx ec tgc itc (own.map (·.2))))) := by
  have bo := blkOk_by hb
  have N' : BlkOk X.N X.env.scope scope own := by rw [O.eN, O.esc]; exact bo
  have nf : ∀ p ∈ scope.names, p.2 ≠ NameKind.free := fun p hp q => by
    have z := List.all_eq_true.mp hf p hp
    rw [q] at z
    cases z
  exact (pe_lcX S.st S.fr O.tk O.calm (by rw [O.eN]; exact O.nd) nf hi N' (fun s H C cl fp xe tk => hg _ (O.blkX s H scope bo.kind C cl fp xe tk)) (fun s H C cl fp xe tk => he _ (O.blkX s H scope bo.kind C cl fp xe tk)) (folded_no hn)).imp fun σ H Q h => comp_preX (sl_of hs) h
end
end Ev

set_option Elab.async false
set_option linter.all false
set_option maxRecDepth 100000
set_option autoImplicit false
namespace Ev
open PySem
@[simp] theorem m_bnd {α β : Type} (a : α) (f : α → M β) : bnd (ret a) f = f a := rfl
@[simp] theorem m_lift {α : Type} (a : α) : lift (some a) = ret a := rfl
@[simp] theorem m_nox {α : Type} (a : α) : nox (ret a) = ret a := rfl
@[simp] theorem m_ret {α : Type} (a : α) (w : W) : ret a w = .ok a w := rfl
@[simp] theorem m_bnd_thr {α β : Type} (c : Nat) (f : α → M β) : bnd (thr c) f = thr c := rfl
section
variable (cf : CF) (fu : Nat) (s : Sl)
@[simp] theorem e_var (i : Nat) : evE cf (E.var i) s = (lift (getI s i)) := by simp only [evE]
@[simp] theorem e_pk (i : Nat) : evE cf (E.pk i) s = (lift (getP s i)) := by simp only [evE]
@[simp] theorem e_none : evE cf (E.none) s = (ret .none) := by simp only [evE]
@[simp] theorem e_tr : evE cf (E.tr) s = (ret (.bool true)) := by simp only [evE]
@[simp] theorem e_fa : evE cf (E.fa) s = (ret (.bool false)) := by simp only [evE]
@[simp] theorem e_int (n : Int) : evE cf (E.int n) s = (ret (.int n)) := by simp only [evE]
@[simp] theorem e_str (x : Str) : evE cf (E.str x) s = (ret (.str x)) := by simp only [evE]
@[simp] theorem e_gint (x : Str) (n : Int) : evE cf (E.gint x n) s = (ret (.int n)) := by simp only [evE]
@[simp] theorem e_fn (f : Nat) : evE cf (E.fn f) s = (ret (fnD f)) := by simp only [evE]
@[simp] theorem e_tup (es : Es) : evE cf (E.tup es) s = (bnd (evEs cf es s) fun ds => if ds.length ≤ LIM then ret (.tuple ds) else bad) := by simp only [evE]
@[simp] theorem e_lst (es : Es) : evE cf (E.lst es) s = (bnd (evEs cf es s) fun ds => if ds.length ≤ LIM then ret (.list ds) else bad) := by simp only [evE]
@[simp] theorem e_dnew : evE cf (E.dnew) s = (ret (.dict [])) := by simp only [evE]
@[simp] theorem e_op (o : Op2) (a b : E) : evE cf (E.op o a b) s = (bnd (evE cf a s) fun x => bnd (evE cf b s) fun y => lift (opD o x y)) := by simp only [evE]
@[simp] theorem e_ladd (a b : E) : evE cf (E.ladd a b) s = (bnd (evE cf a s) fun x => bnd (evE cf b s) fun y => lift (laddD x y)) := by simp only [evE]
@[simp] theorem e_tupr (a : E) : evE cf (E.tupr a) s = (bnd (evE cf a s) fun x => bnd (lift (intD x)) fun i => bnd (lift (rangeD 0 i)) fun ds => ret (.tuple ds)) := by simp only [evE]
@[simp] theorem e_neg (a : E) : evE cf (E.neg a) s = (bnd (evE cf a s) fun x => bnd (lift (intD x)) fun i => ret (.int (-i))) := by simp only [evE]
@[simp] theorem e_and (a b : E) : evE cf (E.and a b) s = (bnd (evE cf a s) fun x => bnd (lift (boolD x)) fun c => if c then evE cf b s else ret (.bool false)) := by simp only [evE]
@[simp] theorem e_or (a b : E) : evE cf (E.or a b) s = (bnd (evE cf a s) fun x => bnd (lift (boolD x)) fun c => if c then ret (.bool true) else evE cf b s) := by simp only [evE]
@[simp] theorem e_not (a : E) : evE cf (E.not a) s = (bnd (evE cf a s) fun x => bnd (lift (boolD x)) fun c => ret (.bool (!c))) := by simp only [evE]
@[simp] theorem e_ite (t : T) (a b : E) : evE cf (E.ite t a b) s = (bnd (evT cf t s) fun c => if c then evE cf a s else evE cf b s) := by simp only [evE]
@[simp] theorem e_chain (o p : Op2) (a b c : E) : evE cf (E.chain o p a b c) s = (bnd (evE cf a s) fun x => bnd (evE cf b s) fun y => bnd (lift ((opD o x y).bind boolD)) fun k => if k then (bnd (evE cf c s) fun z => lift (opD p y z)) else ret (.bool false)) := by simp only [evE]
@[simp] theorem e_call (f : Nat) (es : Es) : evE cf (E.call f es) s = (bnd (evEs cf es s) fun ds => cf f ds) := by simp only [evE]
@[simp] theorem e_calld (i : Nat) (fs : List Nat) (es : Es) : evE cf (E.calld i fs es) s = (bnd (lift ((getI s i).bind fnI)) fun f => if f ∈ fs then (bnd (evEs cf es s) fun ds => cf f ds) else bad) := by simp only [evE]
@[simp] theorem e_bi (b : Bi) (a : E) : evE cf (E.bi b a) s = (bnd (evE cf a s) fun x => lift (biD b x)) := by simp only [evE]
@[simp] theorem e_min2 (a b : E) : evE cf (E.min2 a b) s = (bnd (evE cf a s) fun x => bnd (evE cf b s) fun y => bnd (lift (intD x)) fun i => bnd (lift (intD y)) fun j => ret (.int (if j < i then j else i))) := by simp only [evE]
@[simp] theorem e_max2 (a b : E) : evE cf (E.max2 a b) s = (bnd (evE cf a s) fun x => bnd (evE cf b s) fun y => bnd (lift (intD x)) fun i => bnd (lift (intD y)) fun j => ret (.int (if j > i then j else i))) := by simp only [evE]
@[simp] theorem e_isi (t : Ty) (a : E) : evE cf (E.isi t a) s = (bnd (evE cf a s) fun x => bnd (lift (isiD t x)) fun b => ret (.bool b)) := by simp only [evE]
@[simp] theorem e_ix (a i : E) : evE cf (E.ix a i) s = (bnd (evE cf a s) fun x => bnd (evE cf i s) fun y => lift (ixD x y)) := by simp only [evE]
@[simp] theorem e_sl (a : E) (lo hi : Eo) : evE cf (E.sl a lo hi) s = (bnd (evE cf a s) fun x => bnd (evEo cf lo s) fun l => bnd (evEo cf hi s) fun h => lift (slD x l h)) := by simp only [evE]
@[simp] theorem e_get2 (a k d : E) : evE cf (E.get2 a k d) s = (bnd (evE cf a s) fun x => bnd (lift (dctD x)) fun kvs => bnd (evE cf k s) fun y => bnd (evE cf d s) fun z => if kyOk y kvs then ret ((lookD kvs y).getD z) else bad) := by simp only [evE]
@[simp] theorem e_index (a b : E) : evE cf (E.index a b) s = (bnd (evE cf a s) fun x => bnd (lift (lstD x)) fun xs => bnd (evE cf b s) fun y => lift (idxD xs y)) := by simp only [evE]
@[simp] theorem e_indexT (a b : E) : evE cf (E.indexT a b) s = (bnd (evE cf a s) fun x => bnd (lift (tupD x)) fun xs => bnd (evE cf b s) fun y => lift (idxT xs y)) := by simp only [evE]
@[simp] theorem e_lam (xn : List Str) (a : E) : evE cf (.lam xn a) s = resM xn (evE cf a s) := by simp only [evE]
@[simp] theorem es_nil : evEs cf .nil s = ret [] := by simp only [evEs]
@[simp] theorem es_cons (e : E) (es : Es) : evEs cf (.cons e es) s = bnd (evE cf e s) fun x => bnd (evEs cf es s) fun r => ret (x :: r) := by simp only [evEs]
@[simp] theorem eo_no : evEo cf .no s = ret none := by simp only [evEo]
@[simp] theorem eo_so (e : E) : evEo cf (.so e) s = bnd (evE cf e s) fun x => bnd (lift (intD x)) fun i => ret (some i) := by simp only [evEo]
@[simp] theorem t_val (e : E) : evT cf (.val e) s = bnd (evE cf e s) fun x => lift (truD x) := by simp only [evT]
@[simp] theorem t_cmp (o : Op2) (a b : E) : evT cf (.cmp o a b) s = bnd (evE cf a s) fun x => bnd (evE cf b s) fun y => lift ((opD o x y).bind boolD) := by simp only [evT]
@[simp] theorem t_chain (o p : Op2) (a b c : E) : evT cf (.chain o p a b c) s = bnd (evE cf a s) fun x => bnd (evE cf b s) fun y => bnd (lift ((opD o x y).bind boolD)) fun k => if k then (bnd (evE cf c s) fun z => lift ((opD p y z).bind boolD)) else ret false := by simp only [evT]
@[simp] theorem t_and (a b : T) : evT cf (.and a b) s = bnd (evT cf a s) fun c => if c then evT cf b s else ret false := by simp only [evT]
@[simp] theorem t_or (a b : T) : evT cf (.or a b) s = bnd (evT cf a s) fun c => if c then ret true else evT cf b s := by simp only [evT]
@[simp] theorem t_not (a : T) : evT cf (.not a) s = bnd (evT cf a s) fun c => ret (!c) := by simp only [evT]
@[simp] theorem ts_yes : evTs cf .yes s = ret true := by simp only [evTs]
@[simp] theorem ts_one (t : T) : evTs cf (.one t) s = evT cf t s := by simp only [evTs]
@[simp] theorem i_seq_ (e : E) : evI cf (.seq e) s = bnd (evE cf e s) fun x => lift (seqD x) := by simp only [evI]
@[simp] theorem i_range1_ (a : E) : evI cf (.range1 a) s = bnd (evE cf a s) fun x => bnd (lift (intD x)) fun i => lift (rangeD 0 i) := by simp only [evI]
@[simp] theorem i_range2_ (a b : E) : evI cf (.range2 a b) s = bnd (evE cf a s) fun x => bnd (evE cf b s) fun y => bnd (lift (intD x)) fun i => bnd (lift (intD y)) fun j => lift (rangeD i j) := by simp only [evI]
@[simp] theorem i_zip_ (a b : E) : evI cf (.zip a b) s = bnd (evE cf a s) fun x => bnd (evE cf b s) fun y => lift (zipD x y) := by simp only [evI]
@[simp] theorem i_enum_ (a : E) : evI cf (.enum a) s = bnd (evE cf a s) fun x => lift (enumD x) := by simp only [evI]
@[simp] theorem i_down_ (a : E) : evI cf (.down a) s = bnd (evE cf a s) fun x => bnd (lift (intD x)) fun i => lift (downD i) := by simp only [evI]
/-- one statement, then the rest -/
def andThen (cf : CF) (fu : Nat) (b : B) : Fl → M Fl
  | .nx s' => evB cf fu b s'
  | .ct s' => ret (.ct s')
  | .rt v => ret (.rt v)
@[simp] theorem at_nx (b : B) (s' : Sl) : andThen cf fu b (.nx s') = evB cf fu b s' := rfl
@[simp] theorem at_ct (b : B) (s' : Sl) : andThen cf fu b (.ct s') = ret (.ct s') := rfl
@[simp] theorem at_rt (b : B) (v : D) : andThen cf fu b (.rt v) = ret (.rt v) := rfl
@[simp] theorem b_nil : evB cf fu .nil s = ret (.nx s) := by simp only [evB]
@[simp] theorem b_cons (st : S) (b : B) : evB cf fu (.cons st b) s = bnd (evS cf fu st s) (andThen cf fu b) := by
  simp only [evB]
  congr 1
@[simp] theorem b_frz (i : Nat) (b : B) : evB cf fu (.frz i b) s = bnd (lift (frzS s i)) fun s' => evB cf fu b s' := by simp only [evB]
@[simp] theorem s_expr (e : E) : evS cf fu (.expr e) s = bnd (evE cf e s) fun _ => ret (.nx s) := by simp only [evS]
@[simp] theorem s_set (tg : Tg) (e : E) : evS cf fu (.set tg e) s = bnd (evE cf e s) fun x => bnd (lift (bindT tg x s)) fun s' => ret (.nx s') := by simp only [evS]
@[simp] theorem s_setM (i : Nat) (e : E) : evS cf fu (.setM i e) s = bnd (evE cf e s) fun x => bnd (lift (mutS x)) fun v => if i < s.length then ret (.nx (s.set i (some v))) else bad := by simp only [evS]
@[simp] theorem s_par (i j : Nat) (m n : Bool) (a b : E) : evS cf fu (.par i j m n a b) s = bnd (evE cf a s) fun x => bnd (evE cf b s) fun y => bnd (lift (slotV m x)) fun u => bnd (lift (slotV n y)) fun v => if i < s.length ∧ j < s.length then ret (.nx ((s.set i (some u)).set j (some v))) else bad := by simp only [evS]
@[simp] theorem s_app (i : Nat) (e : E) : evS cf fu (.app i e) s = bnd (lift (getL s i)) fun xs => bnd (evE cf e s) fun x => if xs.length < LIM then ret (.nx (s.set i (some (.l (xs ++ [x]))))) else bad := by simp only [evS]
@[simp] theorem s_ext (i : Nat) (e : E) : evS cf fu (.ext i e) s = bnd (lift (getL s i)) fun xs => bnd (evE cf e s) fun x => bnd (lift (lstD x)) fun ys => if xs.length + ys.length ≤ LIM then ret (.nx (s.set i (some (.l (xs ++ ys))))) else bad := by simp only [evS]
@[simp] theorem s_dput (i : Nat) (k v : E) : evS cf fu (.dput i k v) s = bnd (evE cf v s) fun x => bnd (lift (getM s i)) fun kvs => bnd (evE cf k s) fun y => if kyOk y kvs && decide (kvs.length < LIM) then ret (.nx (s.set i (some (.m (putD y x kvs))))) else bad := by simp only [evS]
@[simp] theorem s_dpop (i : Nat) (k : E) : evS cf fu (.dpop i k) s = bnd (lift (getM s i)) fun kvs => bnd (evE cf k s) fun y => if tkOk y && kvs.all (fun p => tkOk p.1) then ret (.nx (s.set i (some (.m (dropD y kvs))))) else bad := by simp only [evS]
@[simp] theorem s_ife (t : T) (a b : B) : evS cf fu (.ife t a b) s = bnd (evT cf t s) fun c => if c then evB cf fu a s else evB cf fu b s := by simp only [evS]
/-- one turn of a loop -/
def turnF (cf : CF) (fu : Nat) (tg : Tg) (b : B) (d : D) (s : Sl) : M Fl := bnd (lift (bindT tg d s)) fun s' => evB cf fu b s'
@[simp] theorem s_for (tg : Tg) (it : I) (b : B) : evS cf fu (.for_ tg it b) s = bnd (evI cf it s) fun ds => forL (turnF cf fu tg b) ds s := by
  simp only [evS]
  rfl
@[simp] theorem s_ret (e : E) : evS cf fu (.ret e) s = bnd (evE cf e s) fun x => ret (.rt x) := by simp only [evS]
@[simp] theorem s_raise (c : Nat) : evS cf fu (.raise c) s = thr c := by simp only [evS]
@[simp] theorem s_pass : evS cf fu .pass s = ret (.nx s) := by simp only [evS]
@[simp] theorem s_cont : evS cf fu .cont s = ret (.ct s) := by simp only [evS]
/-- the end of a def -/
def fin : Fl → M D
  | .rt v => ret v
  | .nx _ => ret .none
  | .ct _ => bad
@[simp] theorem fin_rt (v : D) : fin (.rt v) = ret v := rfl
@[simp] theorem fin_nx : fin (.nx s) = ret .none := rfl
theorem run_code {f : Fn} {ds : List D} {s0 : Sl} (hl : ds.length = f.np) (hs : startA f ds = s0) : runF cf fu f ds = bnd (evB cf fu f.body s0) fin := by
  unfold runF
  rw [if_pos hl, hs]
  congr 1
end
@[simp] theorem m_assoc {α β γ : Type} (x : M α) (f : α → M β) (g : β → M γ) : bnd (bnd x f) g = bnd x fun a => bnd (f a) g := bnd_assoc x f g
@[simp] theorem res_ret (xn : List Str) (d : D) : resM xn (ret d) = ret (.tuple [.str "returns", d]) := rfl
theorem res_thr {xn : List Str} {k : Nat} {y : Str} (h : xn[k]? = some y) : resM xn (thr k) = ret (.tuple [.str y]) := by
  funext w
  show (match xn[k]? with
    | some y => R.ok (PyData.tuple [.str y]) w
    | none => .bad) = _
  rw [h]
  rfl
@[simp] theorem slotV_t (d : D) : slotV true d = mutS d := rfl
@[simp] theorem slotV_f (d : D) : slotV false d = some (.i d) := rfl
@[simp] theorem getI_z (d : D) (s : Sl) : getI (some (.i d) :: s) 0 = some d := rfl
@[simp] theorem getI_s (x : Option SV) (s : Sl) (n : Nat) : getI (x :: s) (n + 1) = getI s n := rfl
@[simp] theorem getP_zi (d : D) (s : Sl) : getP (some (.i d) :: s) 0 = some d := rfl
@[simp] theorem getP_zl (d : List D) (s : Sl) : getP (some (.l d) :: s) 0 = some (.list d) := rfl
@[simp] theorem getP_zm (d : List (D × D)) (s : Sl) : getP (some (.m d) :: s) 0 = some (.dict d) := rfl
@[simp] theorem getP_s (x : Option SV) (s : Sl) (n : Nat) : getP (x :: s) (n + 1) = getP s n := rfl
@[simp] theorem getL_z (d : List D) (s : Sl) : getL (some (.l d) :: s) 0 = some d := rfl
@[simp] theorem getL_s (x : Option SV) (s : Sl) (n : Nat) : getL (x :: s) (n + 1) = getL s n := rfl
@[simp] theorem getM_z (d : List (D × D)) (s : Sl) : getM (some (.m d) :: s) 0 = some d := rfl
@[simp] theorem getM_s (x : Option SV) (s : Sl) (n : Nat) : getM (x :: s) (n + 1) = getM s n := rfl
theorem evE_comp (cf : CF) (elt : E) (tg : Tg) (it : I) (ifs : Ts) (own : List Nat) (s : Sl) : evE cf (.comp elt tg it ifs own) s = bnd (evI cf it s) fun ds => bnd (nox (compL (turnC cf elt tg ifs (wipeA s own)) ds)) fun r => ret (.list r) := by
  simp only [evE]
  rfl
/-- a comprehension over pure code; the items come from α by e -/
theorem ev_comp {α : Type} {cf : CF} {elt : E} {tg : Tg} {it : I} {ifs : Ts} {own : List Nat} {s : Sl} (e : α → D) (l : List α) (g : α → Option D) (hi : evI cf it s = ret (l.map e)) (h : ∀ x ∈ l, turnC cf elt tg ifs (wipeA s own) (e x) = ret (g x)) : evE cf (.comp elt tg it ifs own) s = ret (.list (l.filterMap g)) := by
  rw [evE_comp, hi, m_bnd]
  have key : ∀ l : List α, (∀ x ∈ l, turnC cf elt tg ifs (wipeA s own) (e x) = ret (g x)) → compL (turnC cf elt tg ifs (wipeA s own)) (l.map e) = ret (l.filterMap g) := by
    intro l
    induction l with
    | nil => intro _; rfl
    | cons x l ih =>
      intro h
      rw [List.map_cons, compL, h x List.mem_cons_self, m_bnd, ih fun y hy => h y (List.mem_cons_of_mem _ hy), m_bnd, List.filterMap_cons]
      cases g x <;> rfl
  rw [key l h, m_nox, m_bnd]
theorem ev_compM {α : Type} {cf : CF} {elt : E} {tg : Tg} {it : I} {ifs : Ts} {own : List Nat} {s : Sl} (e : α → D) (l : List α) (g : α → D) (hi : evI cf it s = ret (l.map e)) (h : ∀ x ∈ l, turnC cf elt tg ifs (wipeA s own) (e x) = ret (some (g x))) : evE cf (.comp elt tg it ifs own) s = ret (.list (l.map g)) := by
  rw [ev_comp e l (fun x => some (g x)) hi h]
  congr 2
  exact congrFun (List.filterMap_eq_map (f := g)) l
theorem boolsD_map {α : Type} (f : α → Bool) : ∀ l : List α, boolsD (l.map fun x => .bool (f x)) = some (l.map f)
  | [] => rfl
  | x :: l => by rw [List.map_cons, boolsD, boolsD_map f l]; rfl
theorem allD_map {α : Type} (f : α → Bool) (l : List α) : allD (.list (l.map fun x => .bool (f x))) = some (.bool (l.all f)) := by
  show (boolsD _).map _ = _
  rw [boolsD_map]
  simp [List.all_map, Function.comp_def]
theorem anyD_map {α : Type} (f : α → Bool) (l : List α) : anyD (.list (l.map fun x => .bool (f x))) = some (.bool (l.any f)) := by
  show (boolsD _).map _ = _
  rw [boolsD_map]
  simp [List.any_map, Function.comp_def]
def Pl (d : D) : Prop := ok2 d = true
theorem pl_iff {d : D} : Pl d ↔ d.canLay0 = true ∧ d.depth ≤ 64 := by
  unfold Pl ok2 SeqAt.shaped
  rw [Bool.and_eq_true, decide_eq_true_eq]
theorem pl_dict {kvs : List (D × D)} (h : Pl (.dict kvs)) : False := by
  have := (pl_iff.mp h).1
  simp [PyData.canLay0] at this
theorem canLay_all {xs : List D} : PyData.canLayAll0 xs = true ↔ ∀ x ∈ xs, x.canLay0 = true := by
  induction xs with
  | nil => simp [PyData.canLayAll0]
  | cons x xs ih => rw [PyData.canLayAll0, Bool.and_eq_true, ih]; simp
theorem depth_all {xs : List D} {n : Nat} : PyData.depthAll xs ≤ n ↔ ∀ x ∈ xs, x.depth ≤ n := by
  induction xs with
  | nil => simp [PyData.depthAll]
  | cons x xs ih => rw [PyData.depthAll, Nat.max_le, ih]; simp
theorem pl_tuple {xs : List D} (h : Pl (.tuple xs)) : ∀ x ∈ xs, Pl x := fun x hx => by
  obtain ⟨h1, h2⟩ := pl_iff.mp h
  rw [PyData.canLay0] at h1
  rw [PyData.depth] at h2
  exact pl_iff.mpr ⟨canLay_all.mp h1 x hx, depth_all.mp (by omega : PyData.depthAll xs ≤ 64) x hx⟩
theorem bnd_eq {α β : Type} {x : M α} {a : α} {g : α → M β} {r : M β} (h : x = ret a) (k : g a = r) : bnd x g = r := by rw [h]; exact k
/-- a comprehension at the front -/
theorem bnd_compM {α β : Type} {cf : CF} {elt : E} {tg : Tg} {it : I} {ifs : Ts} {own : List Nat} {s : Sl} {k : D → M β} {r : M β} (e : α → D) (l : List α) (g : α → D) (hi : evI cf it s = ret (l.map e)) (h : ∀ x ∈ l, turnC cf elt tg ifs (wipeA s own) (e x) = ret (some (g x))) (hk : k (.list (l.map g)) = r) : bnd (evE cf (.comp elt tg it ifs own) s) k = r :=
  bnd_eq (ev_compM e l g hi h) hk
theorem bnd_compF {α β : Type} {cf : CF} {elt : E} {tg : Tg} {it : I} {ifs : Ts} {own : List Nat} {s : Sl} {k : D → M β} {r : M β} (e : α → D) (l : List α) (g : α → Option D) (hi : evI cf it s = ret (l.map e)) (h : ∀ x ∈ l, turnC cf elt tg ifs (wipeA s own) (e x) = ret (g x)) (hk : k (.list (l.filterMap g)) = r) : bnd (evE cf (.comp elt tg it ifs own) s) k = r :=
  bnd_eq (ev_comp e l g hi h) hk
/-- .. that keeps some items -/
theorem filterMap_keep {α : Type} (e : α → D) (p : α → Bool) (l : List α) : (l.filterMap fun x => if p x = true then some (e x) else none) = (l.filter p).map e := by
  induction l with
  | nil => rfl
  | cons x l ih =>
    rw [List.filterMap_cons, List.filter_cons]
    cases h : p x <;> simp [ih]
theorem bnd_compK {α β : Type} {cf : CF} {elt : E} {tg : Tg} {it : I} {ifs : Ts} {own : List Nat} {s : Sl} {k : D → M β} {r : M β} (e g : α → D) (l : List α) (p : α → Bool) (hi : evI cf it s = ret (l.map e)) (h : ∀ x ∈ l, turnC cf elt tg ifs (wipeA s own) (e x) = ret (if p x = true then some (g x) else none)) (hk : k (.list ((l.filter p).map g)) = r) : bnd (evE cf (.comp elt tg it ifs own) s) k = r :=
  bnd_compF e l _ hi h (by rw [filterMap_keep]; exact hk)
def Pu {α : Type} (x : M α) (P : α → Prop) : Prop := ∃ a, x = ret a ∧ P a
section
variable {α β : Type}
theorem Pu.ret {a : α} {P : α → Prop} (h : P a) : Pu (Ev.ret a) P := ⟨a, rfl, h⟩
theorem Pu.of {x : M α} {a : α} {P : α → Prop} (e : x = Ev.ret a) (h : P a) : Pu x P := ⟨a, e, h⟩
theorem Pu.eq {x : M α} {a : α} (h : Pu x fun b => b = a) : x = Ev.ret a := by
  obtain ⟨b, e, rfl⟩ := h
  exact e
theorem Pu.bnd {x : M α} {f : α → M β} {P : α → Prop} {Q : β → Prop} (h : Pu x P) (k : ∀ a, P a → Pu (f a) Q) : Pu (Ev.bnd x f) Q := by
  obtain ⟨a, rfl, p⟩ := h
  exact k a p
theorem Pu.imp {x : M α} {P Q : α → Prop} (h : Pu x P) (k : ∀ a, P a → Q a) : Pu x Q := by
  obtain ⟨a, e, p⟩ := h
  exact ⟨a, e, k a p⟩
/-- a loop, which may be left by a return -/
theorem Pu.forR {f : D → Sl → M Fl} {ds : List D} {s : Sl} (J : Nat → Sl → Prop) (Q : D → Prop) (h0 : J 0 s)
    (hs : ∀ (k : Nat) (d : D) (s : Sl), ds[k]? = some d → J k s → Pu (f d s) fun r => (∃ s', (r = .nx s' ∨ r = .ct s') ∧ J (k + 1) s') ∨ ∃ v, r = .rt v ∧ Q v) :
    Pu (forL f ds s) fun r => (∃ s', r = .nx s' ∧ J ds.length s') ∨ ∃ v, r = .rt v ∧ Q v := by
  have key : ∀ (l : List D) (k : Nat) (s : Sl), k + l.length = ds.length → ds.drop k = l → J k s → Pu (forL f l s) fun r => (∃ s', r = .nx s' ∧ J ds.length s') ∨ ∃ v, r = .rt v ∧ Q v := by
    intro l
    induction l with
    | nil =>
      intro k s hl hd hJ
      have e : k = ds.length := hl
      exact ⟨_, rfl, .inl ⟨s, rfl, e ▸ hJ⟩⟩
    | cons d l ih =>
      intro k s hl hd hJ
      rw [List.length_cons] at hl
      have hk : k < ds.length := by omega
      rw [List.drop_eq_getElem_cons hk] at hd
      injection hd with e1 e2
      rw [forL]
      refine (hs k d s (by rw [List.getElem?_eq_getElem hk, e1]) hJ).bnd fun r hr => ?_
      rcases hr with ⟨s', hr | hr, J1⟩ | ⟨v, hr, hv⟩
      · subst hr
        exact ih (k + 1) s' (by omega) e2 J1
      · subst hr
        exact ih (k + 1) s' (by omega) e2 J1
      · subst hr
        exact .ret (.inr ⟨v, rfl, hv⟩)
  exact key ds 0 s (by simp) (by simp) h0
theorem Pu.for {f : D → Sl → M Fl} {ds : List D} {s : Sl} (J : Nat → Sl → Prop) (h0 : J 0 s) (hs : ∀ (k : Nat) (d : D) (s : Sl), ds[k]? = some d → J k s → Pu (f d s) fun r => ∃ s', (r = .nx s' ∨ r = .ct s') ∧ J (k + 1) s') : Pu (forL f ds s) fun r => ∃ s', r = .nx s' ∧ J ds.length s' := by
  refine (Pu.forR J (fun _ => False) h0 fun k d s hk hJ => (hs k d s hk hJ).imp fun r h => .inl h).imp fun r h => ?_
  rcases h with h | ⟨_, _, h⟩
  · exact h
  · exact h.elim
/-- a loop over a list that comes from α -/
theorem Pu.forM {γ : Type} {f : D → Sl → M Fl} {ds : List D} {s : Sl} (e : γ → D) (l : List γ) (hd : ds = l.map e) (J : Nat → Sl → Prop) (h0 : J 0 s) (hs : ∀ (k : Nat) (x : γ) (s : Sl), l[k]? = some x → J k s → Pu (f (e x) s) fun r => ∃ s', (r = .nx s' ∨ r = .ct s') ∧ J (k + 1) s') : Pu (forL f ds s) fun r => ∃ s', r = .nx s' ∧ J l.length s' := by
  subst hd
  have := Pu.for (f := f) (ds := l.map e) (s := s) J h0 fun k d s hk hJ => by
    rw [List.getElem?_map] at hk
    obtain ⟨x, hx, rfl⟩ := Option.map_eq_some_iff.mp hk
    exact hs k x s hx hJ
  rw [List.length_map] at this
  exact this
/-- the turn ends here -/
theorem Pu.nx {s : Sl} {J : Sl → Prop} (h : J s) : Pu (Ev.ret (Fl.nx s)) fun r => ∃ s', (r = .nx s' ∨ r = .ct s') ∧ J s' := ⟨_, rfl, s, .inl rfl, h⟩
end
end Ev

set_option Elab.async false
set_option linter.all false
set_option maxRecDepth 100000
set_option autoImplicit false
namespace Ev
open PySem
def isIntD : D → Bool
  | .int _ => true
  | _ => false
theorem ev_is_integer (cf : CF) (fu : Nat) {d : D} (h : Pl d) : runF cf fu f_is_integer [d] = ret (.bool (isIntD d)) := by
  cases d with
  | dict kvs => exact (pl_dict h).elim
  | _ => rfl
def ascB : List D → Bool
  | x :: y :: r => PySem.W.dataLt x y && ascB (y :: r)
  | _ => true
theorem zip_asc : ∀ xs : List D, (xs.zip (xs.drop 1)).all (fun p => PySem.W.dataLt p.1 p.2) = ascB xs
  | [] => rfl
  | [x] => rfl
  | x :: y :: r => by
    have ih := zip_asc (y :: r)
    show (PySem.W.dataLt x y && ((y :: r).zip r).all _) = _
    rw [ascB]
    rw [show (y :: r).drop 1 = r from rfl] at ih
    rw [ih]
theorem zip_asc' (xs : List D) : (xs.zip xs.tail).all (fun p => PySem.W.dataLt p.1 p.2) = ascB xs := by rw [← List.drop_one]; exact zip_asc xs
/-- they may be compared -/
def cmpOk (xs : List D) : Prop := ∀ x ∈ xs, Pl x ∧ notNone x = true ∧ ∀ y ∈ xs, PySem.W.alike x y = true
theorem ltD_ok {xs : List D} (h : cmpOk xs) {x y : D} (hx : x ∈ xs) (hy : y ∈ xs) : ltD x y = some (PySem.W.dataLt x y) := by
  unfold ltD
  rw [show ok2 x = true from (h x hx).1, show ok2 y = true from (h y hy).1, (h x hx).2.2 y hy, (h x hx).2.1]
  rfl
theorem cut1 (xs : List D) : cutD xs (some 1) none = xs.drop 1 := by
  unfold cutD slI
  cases xs with
  | nil => rfl
  | cons x r =>
    have : min (1 : Int).toNat (x :: r).length = 1 := by simp
    simp
theorem mem_zip1 {xs : List D} {p : D × D} (h : p ∈ xs.zip (xs.drop 1)) : p.1 ∈ xs ∧ p.2 ∈ xs := by
  have := List.of_mem_zip h
  exact ⟨this.1, List.mem_of_mem_drop this.2⟩
theorem ev_is_ascending (cf : CF) (fu : Nat) {xs : List D} (h : cmpOk xs) : runF cf fu f_is_ascending [.tuple xs] = ret (.bool (ascB xs)) ∧ runF cf fu f_is_ascending [.list xs] = ret (.bool (ascB xs)) := by
  have turn : ∀ (s0 : Option SV) (p : D × D), p ∈ xs.zip (xs.drop 1) → turnC cf (.op .lt (.pk 1) (.pk 2)) (.tup (.cons (.name 1) (.cons (.name 2) .nil))) .yes [s0, none, none] (pairD p) = ret (some (.bool (PySem.W.dataLt p.1 p.2))) := fun s0 p hp => by
    have hl := ltD_ok h (mem_zip1 hp).1 (mem_zip1 hp).2
    simp [turnC, pairD, bindT, bindTs, getP, opD, hl]
  constructor
  · rw [run_code cf fu (f := f_is_ascending) rfl (s0 := [some (.i (.tuple xs)), none, none]) rfl]
    simp only [f_is_ascending, b_cons, s_ret, e_bi, m_assoc]
    rw [ev_compM pairD (xs.zip (xs.drop 1)) (fun p => .bool (PySem.W.dataLt p.1 p.2)) (by simp [getI, getP, slD, zipD, cut1, intD]) (turn _)]
    simp [biD, allD_map, zip_asc']
  · rw [run_code cf fu (f := f_is_ascending) rfl (s0 := [some (.i (.list xs)), none, none]) rfl]
    simp only [f_is_ascending, b_cons, s_ret, e_bi, m_assoc]
    rw [ev_compM pairD (xs.zip (xs.drop 1)) (fun p => .bool (PySem.W.dataLt p.1 p.2)) (by simp [getI, getP, slD, zipD, cut1, intD]) (turn _)]
    simp [biD, allD_map, zip_asc']

def szD (ns : List Int) : D := .tuple (ns.map .int)
def isPairD (ns : List Int) : D → Bool
  | .tuple [.int p, .int v] => decide (0 ≤ p) && decide (p < ns.length) && decide (0 ≤ v) && decide (v < ns.getD p.toNat 0)
  | _ => false
theorem ixD_sz {ns : List Int} {p : Int} (h0 : 0 ≤ p) (h1 : p < ns.length) : ixD (szD ns) (.int p) = some (.int (ns.getD p.toNat 0)) := by
  have hl : p.toNat < ns.length := by omega
  show (ixI (ns.map PyData.int).length p).bind (fun j => (ns.map PyData.int)[j]?) = _
  unfold ixI
  rw [if_pos h0, List.length_map, if_pos h1]
  show (ns.map PyData.int)[p.toNat]? = _
  rw [List.getElem?_map, List.getD_eq_getElem?_getD, List.getElem?_eq_getElem hl]
  rfl
/-- all of the items are ints -/
theorem ev_all_int {cf : CF} {i n : Nat} (hI : ∀ d, Pl d → cf i [d] = ret (.bool (isIntD d))) {xs : List D} (hp : ∀ x ∈ xs, Pl x) {s : Sl} {it : I} {j : Nat} (hj : j < s.length) (hi : evI cf it s = ret xs) :
    evE cf (.comp (.call i (.cons (.var j) .nil)) (.name j) it .yes [j]) s = ret (.list (xs.map fun x => .bool (isIntD x))) := by
  refine ev_compM (fun x => x) xs (fun x => .bool (isIntD x)) (by rw [hi, List.map_id']) fun x hx => ?_
  simp [turnC, wipeA, bindT, getI, hj, hI x (hp x hx)]
theorem ne_int (a b : Int) : (opD .ne (.int a) (.int b)).bind boolD = some (!(a == b)) := by
  simp [opD, eqD, ok2, SeqAt.shaped, PyData.canLay0, PyData.depth, PyData.eqv, boolD]
@[simp] theorem op_le (a b : Int) : opD .le (.int a) (.int b) = some (.bool (decide (a ≤ b))) := rfl
@[simp] theorem op_ge (a b : Int) : opD .ge (.int a) (.int b) = some (.bool (decide (b ≤ a))) := rfl
@[simp] theorem op_gt (a b : Int) : opD .gt (.int a) (.int b) = some (.bool (decide (b < a))) := rfl
@[simp] theorem op_add (a b : Int) : opD .add (.int a) (.int b) = some (.int (a + b)) := rfl
@[simp] theorem op_sub (a b : Int) : opD .sub (.int a) (.int b) = some (.int (a - b)) := rfl
@[simp] theorem op_lt (a b : Int) : opD .lt (.int a) (.int b) = some (.bool (decide (a < b))) := by
  show (ltD (.int a) (.int b)).map _ = _
  unfold ltD
  rw [PySem.W.dataLt_int]
  rfl
theorem ixD2 (a b : D) : ixD (.tuple [a, b]) (.int 0) = some a ∧ ixD (.tuple [a, b]) (.int 1) = some b := ⟨rfl, rfl⟩
@[simp] theorem boolD_b (b : Bool) : boolD (.bool b) = some b := rfl
theorem ev_is_pair_of {cf : CF} {i : Nat} (fu : Nat) (hI : ∀ d, Pl d → cf i [d] = ret (.bool (isIntD d))) (ns : List Int) {d : D} (h : Pl d) : runF cf fu (f_is_pair_of i) [szD ns, d] = ret (.bool (isPairD ns d)) := by
  rw [run_code cf fu (f := f_is_pair_of i) rfl (s0 := [some (.i (szD ns)), some (.i d), none]) rfl]
  cases d with
  | dict kvs => exact (pl_dict h).elim
  | tuple xs =>
    have hx := pl_tuple h
    simp only [f_is_pair_of, b_cons, s_ife, t_or, t_not, t_val, e_isi, e_pk, e_bi, t_cmp, e_int]
    rw [ev_all_int (n := 0) hI hx (by simp) (by simp [getI, seqD])]
    simp only [getP, isiD, biD, lenD, truD, allD_map, List.getElem?_cons_succ, List.getElem?_cons_zero, m_lift, m_bnd, m_assoc, ne_int, Bool.not_true, if_false]
    by_cases hl : xs.length = 2
    · match xs, hl with
      | [a, b], _ =>
        cases a with
        | int p =>
          cases b with
          | int v =>
            have e2 : lenD (szD ns) = some (.int ns.length) := by simp [szD, lenD]
            simp only [isIntD, List.all_cons, List.all_nil, Bool.and_true, Bool.not_true, m_bnd, List.length_cons, List.length_nil]
            simp only [show ((((0 + 1 + 1 : Nat) : Int) == 2) = true) from rfl, Bool.not_true, Bool.false_eq_true, if_false, b_nil, m_bnd, at_nx, b_cons, s_ret, e_and, e_chain, e_int, e_ix, e_pk, e_bi, getP, List.getElem?_cons_succ, List.getElem?_cons_zero, m_lift, (ixD2 _ _).1, (ixD2 _ _).2, biD, e2, op_le, op_lt, Option.bind_some, boolD_b, m_assoc, at_rt]
            by_cases h0 : 0 ≤ p
            · by_cases h1 : p < ns.length
              · by_cases h2 : 0 ≤ v
                · simp [h0, h1, h2, ixD_sz h0 h1, isPairD]
                · simp [h0, h1, h2, isPairD]
              · simp [h0, h1, isPairD]
            · simp [h0, isPairD]
          | _ => rfl
        | _ => rfl
    · have e : ((xs.length : Int) == 2) = false := by
        rw [beq_eq_false_iff_ne]
        omega
      simp only [e]
      have er : isPairD ns (.tuple xs) = false := by
        unfold isPairD
        split
        · rename_i q
          cases q
          exact absurd rfl hl
        · rfl
      rw [er]
      rfl
  | _ => rfl

def prI (p : Int × Int) : D := .tuple [.int p.1, .int p.2]
def fstD : D → D
  | .tuple (x :: _) => x
  | _ => .none
def isCombD (ns : List Int) : D → Bool
  | .tuple xs => !xs.isEmpty && xs.all (isPairD ns) && ascB (xs.map fstD)
  | _ => false
theorem pair_shape {ns : List Int} {d : D} (h : isPairD ns d = true) : ∃ p : Int × Int, d = prI p ∧ 0 ≤ p.1 ∧ p.1 < ns.length ∧ 0 ≤ p.2 ∧ p.2 < ns.getD p.1.toNat 0 := by
  unfold isPairD at h
  split at h
  · rename_i p v
    simp only [Bool.and_eq_true, decide_eq_true_eq] at h
    exact ⟨(p, v), rfl, h.1.1.1, h.1.1.2, h.1.2, h.2⟩
  · cases h
theorem pairs_shape {ns : List Int} : ∀ {xs : List D}, xs.all (isPairD ns) = true → ∃ ps : List (Int × Int), xs = ps.map prI
  | [], _ => ⟨[], rfl⟩
  | x :: xs, h => by
    rw [List.all_cons, Bool.and_eq_true] at h
    obtain ⟨p, e, _⟩ := pair_shape h.1
    obtain ⟨ps, e2⟩ := pairs_shape h.2
    exact ⟨p :: ps, by rw [e, e2]; rfl⟩
theorem pl_int (i : Int) : Pl (.int i) := pl_iff.mpr ⟨rfl, (show 0 ≤ 64 by decide)⟩
theorem cmp_ints (is : List Int) : cmpOk (is.map .int) := fun x hx => by
  obtain ⟨i, _, rfl⟩ := List.mem_map.mp hx
  refine ⟨pl_int i, rfl, fun y hy => ?_⟩
  obtain ⟨j, _, rfl⟩ := List.mem_map.mp hy
  rfl
theorem eqv_nil (xs : List D) : PyData.eqv (.tuple xs) (.tuple []) = xs.isEmpty := by
  cases xs <;> simp [PyData.eqv, PyData.eqvAll]
theorem pl_nil : Pl (.tuple []) := pl_iff.mpr ⟨rfl, by decide⟩
theorem eqD_pl {x y : D} (hx : Pl x) (hy : Pl y) : eqD x y = some (PyData.eqv x y) := by
  unfold eqD
  rw [show ok2 x = true from hx, show ok2 y = true from hy]
  rfl
theorem op_eq {x y : D} (hx : Pl x) (hy : Pl y) : opD .eq x y = some (.bool (PyData.eqv x y)) := by
  show (eqD x y).map _ = _
  rw [eqD_pl hx hy]
  rfl
theorem op_ne {x y : D} (hx : Pl x) (hy : Pl y) : opD .ne x y = some (.bool (!PyData.eqv x y)) := by
  show (eqD x y).map _ = _
  rw [eqD_pl hx hy]
  rfl
/-- the contract of is_ascending -/
abbrev AscOk (cf : CF) (i : Nat) : Prop := ∀ xs, cmpOk xs → cf i [.tuple xs] = ret (.bool (ascB xs)) ∧ cf i [.list xs] = ret (.bool (ascB xs))
abbrev IntOk (cf : CF) (i : Nat) : Prop := ∀ d, Pl d → cf i [d] = ret (.bool (isIntD d))
abbrev PairOk (cf : CF) (i : Nat) : Prop := ∀ ns d, Pl d → cf i [szD ns, d] = ret (.bool (isPairD ns d))
abbrev CombOk (cf : CF) (i : Nat) : Prop := ∀ ns d, Pl d → cf i [szD ns, d] = ret (.bool (isCombD ns d))
theorem ev_is_combination_of {cf : CF} {ia ip : Nat} (fu : Nat) (hA : AscOk cf ia) (hP : PairOk cf ip) (ns : List Int) {d : D} (h : Pl d) : runF cf fu (f_is_combination_of ia ip) [szD ns, d] = ret (.bool (isCombD ns d)) := by
  rw [run_code cf fu (f := f_is_combination_of ia ip) rfl (s0 := [some (.i (szD ns)), some (.i d), none]) rfl]
  cases d with
  | dict kvs => exact (pl_dict h).elim
  | tuple xs =>
    have hx := pl_tuple h
    have c1 : evE cf (.comp (.call ip (.cons (.var 0) (.cons (.var 2) .nil))) (.name 2) (.seq (.var 1)) .yes [2]) [some (.i (szD ns)), some (.i (.tuple xs)), none] = ret (.list (xs.map fun x => .bool (isPairD ns x))) := by
      refine ev_compM (fun x => x) xs (fun x => .bool (isPairD ns x)) (by simp [getI, seqD]) fun x hx' => ?_
      simp [turnC, wipeA, bindT, getI, hP ns x (hx x hx')]
    simp only [f_is_combination_of, b_cons, s_ife, t_or, t_not, t_val, e_isi, e_pk, e_bi, t_cmp, e_tup, es_nil, c1]
    simp only [getP, isiD, biD, truD, allD_map, List.getElem?_cons_succ, List.getElem?_cons_zero, m_lift, m_bnd, m_assoc, List.length_nil, Nat.zero_le, if_true, op_eq h pl_nil, Option.bind_some, boolD_b, eqv_nil, Bool.not_true, Bool.false_eq_true, if_false]
    by_cases he : xs.isEmpty = true
    · simp [he, isCombD]
    · have he : xs.isEmpty = false := by simpa using he
      by_cases ha : xs.all (isPairD ns) = true
      · obtain ⟨ps, rfl⟩ := pairs_shape ha
        have c2 : evE cf (.comp (.ix (.pk 2) (.int 0)) (.name 2) (.seq (.var 1)) .yes [2]) [some (.i (szD ns)), some (.i (.tuple (ps.map prI))), none] = ret (.list (ps.map fun p => .int p.1)) := by
          refine ev_compM prI ps (fun p => .int p.1) (by simp [getI, seqD]) fun p _ => ?_
          simp [turnC, wipeA, bindT, getP, prI, ixD, ixI]
        have e1 : ps.map (fun p => PyData.int p.1) = (ps.map (·.1)).map .int := by rw [List.map_map]; rfl
        have e2 : (ps.map prI).map fstD = ps.map fun p => .int p.1 := by rw [List.map_map]; rfl
        simp only [he, ha, Bool.not_true, Bool.false_eq_true, if_false, b_nil, m_bnd, at_nx, b_cons, s_ret, e_call, es_cons, es_nil, c2, m_assoc]
        rw [e1, (hA _ (cmp_ints _)).2]
        simp [isCombD, he, ha, e2, e1]
      · simp [he, ha, isCombD]
  | _ => rfl
def sizeOk : D → Bool
  | .int n => decide (2 ≤ n) && decide (n ≤ 4)
  | _ => false
def toI : D → Int
  | .int n => n
  | _ => 0
def isModelD : D → Bool
  | .tuple [.tuple ss, .tuple fs] => decide (2 ≤ ss.length) && decide (ss.length ≤ 5) && ss.all sizeOk && decide (fs.length ≤ 8) && fs.all (isCombD (ss.map toI)) && ascB fs
  | _ => false
theorem sizes_shape : ∀ {ss : List D}, ss.all sizeOk = true → ss = (ss.map toI).map .int
  | [], _ => rfl
  | x :: ss, h => by
    rw [List.all_cons, Bool.and_eq_true] at h
    have e : x = .int (toI x) := by
      cases x with
      | int n => rfl
      | _ => cases h.1
    rw [List.map_cons, List.map_cons, ← sizes_shape h.2, ← e]
theorem alike_prs : ∀ ps qs : List (Int × Int), PySem.W.alikeAll (ps.map prI) (qs.map prI) = true
  | [], _ => by simp [PySem.W.alikeAll]
  | _ :: _, [] => by simp [PySem.W.alikeAll]
  | p :: ps, q :: qs => by
    rw [List.map_cons, List.map_cons, PySem.W.alikeAll, alike_prs ps qs]
    rfl
theorem comb_shape {ns : List Int} {d : D} (h : isCombD ns d = true) : ∃ ps : List (Int × Int), d = .tuple (ps.map prI) := by
  cases d with
  | tuple xs =>
    simp only [isCombD, Bool.and_eq_true] at h
    obtain ⟨ps, e⟩ := pairs_shape h.1.2
    exact ⟨ps, by rw [e]⟩
  | _ => cases h
theorem cmp_combs {ns : List Int} {fs : List D} (hp : ∀ x ∈ fs, Pl x) (h : fs.all (isCombD ns) = true) : cmpOk fs := fun x hx => by
  have h' := List.all_eq_true.mp h
  obtain ⟨ps, rfl⟩ := comb_shape (h' x hx)
  refine ⟨hp _ hx, rfl, fun y hy => ?_⟩
  obtain ⟨qs, rfl⟩ := comb_shape (h' y hy)
  rw [PySem.W.alike]
  exact alike_prs ps qs
theorem ev_is_model {cf : CF} {ia ic ii : Nat} (fu : Nat) (hA : AscOk cf ia) (hC : CombOk cf ic) (hI : IntOk cf ii) {d : D} (h : Pl d) : runF cf fu (f_is_model ia ic ii) [d] = ret (.bool (isModelD d)) := by
  rw [run_code cf fu (f := f_is_model ia ic ii) rfl (s0 := [some (.i d), none, none, none, none]) rfl]
  cases d with
  | dict kvs => exact (pl_dict h).elim
  | tuple xs =>
    have hx := pl_tuple h
    simp only [f_is_model, b_cons, s_ife, t_or, t_not, t_val, e_isi, e_pk, e_bi, t_cmp, e_int, e_ix]
    simp only [getP, isiD, biD, lenD, truD, List.getElem?_cons_succ, List.getElem?_cons_zero, m_lift, m_bnd, m_assoc, ne_int, Bool.not_true, if_false, Bool.false_eq_true]
    by_cases hl : xs.length = 2
    · match xs, hl with
      | [a, f], _ =>
        have ha := hx a (by simp)
        have hf := hx f (by simp)
        cases a with
        | dict kvs => exact (pl_dict ha).elim
        | tuple ss =>
          have hs := pl_tuple ha
          have c1 : evE cf (.comp (.and (.call ii (.cons (.var 3) .nil)) (.chain .le .le (.int 2) (.pk 3) (.int 4))) (.name 3) (.seq (.var 1)) .yes [3]) [some (.i (.tuple [.tuple ss, f])), some (.i (.tuple ss)), some (.i f), none, none] = ret (.list (ss.map fun x => .bool (sizeOk x))) := by
            refine ev_compM (fun x => x) ss (fun x => .bool (sizeOk x)) (by simp [getI, seqD]) fun x hx' => ?_
            have hpx := hs x hx'
            cases x with
            | dict kvs => exact (pl_dict hpx).elim
            | int n =>
              simp only [turnC, wipeA, bindT, List.map_cons, List.map_nil, List.length_set, List.length_cons, List.length_nil, List.set_cons_succ, List.set_cons_zero]
              simp [getI, getP, hI _ hpx, isIntD, sizeOk]
              by_cases h2 : 2 ≤ n <;> simp [h2]
            | _ =>
              simp only [turnC, wipeA, bindT, List.map_cons, List.map_nil, List.length_set, List.length_cons, List.length_nil, List.set_cons_succ, List.set_cons_zero]
              simp [getI, getP, hI _ hpx, isIntD, sizeOk]
          have e0 : ((([PyData.tuple ss, f].length : Nat) : Int) == 2) = true := rfl
          have e5 : bindT (.tup (.cons (.name 1) (.cons (.name 2) .nil))) (.tuple [.tuple ss, f]) [some (.i (.tuple [.tuple ss, f])), none, none, none, none] = some [some (.i (.tuple [.tuple ss, f])), some (.i (.tuple ss)), some (.i f), none, none] := rfl
          simp only [e0, Bool.not_true, Bool.false_eq_true, if_false, (ixD2 _ _).1, m_lift, m_bnd, isiD, truD, b_nil, at_nx, b_cons, s_set, e_var, getI, List.getElem?_cons_zero, e5, s_ife, t_or, t_not, t_chain, t_val, e_bi, e_int, e_pk, getP, List.getElem?_cons_succ, biD, lenD, op_le, Option.bind_some, boolD_b, c1, allD_map, m_assoc, e_isi, t_cmp, e_gint]
          have hm0 : ∀ b : Bool, isModelD (.tuple [.tuple ss, f]) = false → b = false → (ret (.bool false) : M D) = ret (.bool (isModelD (.tuple [.tuple ss, f]))) := fun b h _ => by rw [h]
          by_cases h2 : 2 ≤ ss.length
          · by_cases h5 : ss.length ≤ 5
            · by_cases hss : ss.all sizeOk = true
              · have i2 : decide ((2 : Int) ≤ (ss.length : Int)) = true := decide_eq_true (by omega)
                have i5 : decide ((ss.length : Int) ≤ 5) = true := decide_eq_true (by omega)
                simp only [i2, i5, hss, if_true, m_bnd, Bool.not_true, Bool.false_eq_true, if_false, b_nil, at_nx, b_cons, s_ife, t_or, t_not, t_val, e_isi, e_pk, getP, List.getElem?_cons_succ, List.getElem?_cons_zero, m_lift, m_assoc]
                cases f with
                | dict kvs => exact (pl_dict hf).elim
                | tuple fs =>
                  have hfs := pl_tuple hf
                  have esz : PyData.tuple ss = szD (ss.map toI) := by
                    unfold szD
                    rw [← sizes_shape hss]
                  have c2 : evE cf (.comp (.call ic (.cons (.var 1) (.cons (.var 4) .nil))) (.name 4) (.seq (.var 2)) .yes [4]) [some (.i (.tuple [.tuple ss, .tuple fs])), some (.i (.tuple ss)), some (.i (.tuple fs)), none, none] = ret (.list (fs.map fun x => .bool (isCombD (ss.map toI) x))) := by
                    refine ev_compM (fun x => x) fs (fun x => .bool (isCombD (ss.map toI) x)) (by simp [getI, seqD]) fun x hx' => ?_
                    have := hC (ss.map toI) x (hfs x hx')
                    rw [← esz] at this
                    simp [turnC, wipeA, bindT, getI, this]
                  simp only [isiD, m_lift, m_bnd, truD, Bool.not_true, Bool.false_eq_true, if_false, t_cmp, e_bi, e_pk, getP, List.getElem?_cons_succ, List.getElem?_cons_zero, biD, lenD, e_gint, op_gt, Option.bind_some, boolD_b, m_assoc]
                  by_cases h8 : fs.length ≤ 8
                  · have i8 : decide ((8 : Int) < (fs.length : Int)) = false := decide_eq_false (by omega)
                    simp only [i8, Bool.false_eq_true, if_false, b_nil, m_bnd, at_nx, b_cons, s_ret, e_and, e_bi, c2, biD, allD_map, m_lift, boolD_b, m_assoc]
                    by_cases hc : fs.all (isCombD (ss.map toI)) = true
                    · have := (hA fs (cmp_combs hfs hc)).1
                      simp [hc, getI, this, isModelD, h2, h5, hss, h8]
                    · simp [hc, isModelD]
                  · have i8 : decide ((8 : Int) < (fs.length : Int)) = true := decide_eq_true (by omega)
                    simp [i8, isModelD, h8]
                | _ => rfl
              · have i2 : decide ((2 : Int) ≤ (ss.length : Int)) = true := decide_eq_true (by omega)
                have i5 : decide ((ss.length : Int) ≤ 5) = true := decide_eq_true (by omega)
                have hm : isModelD (.tuple [.tuple ss, f]) = false := by
                  unfold isModelD
                  split
                  · rename_i q
                    cases q
                    simp [hss]
                  · rfl
                simp [i2, i5, hss, hm]
            · have i5 : decide ((ss.length : Int) ≤ 5) = false := decide_eq_false (by omega)
              have hm : isModelD (.tuple [.tuple ss, f]) = false := by
                unfold isModelD
                split
                · rename_i q
                  cases q
                  simp [h5]
                · rfl
              simp [i5, hm]
          · have i2 : decide ((2 : Int) ≤ (ss.length : Int)) = false := decide_eq_false (by omega)
            have hm : isModelD (.tuple [.tuple ss, f]) = false := by
              unfold isModelD
              split
              · rename_i q
                cases q
                simp [h2]
              · rfl
            simp [i2, hm]
        | _ => rfl
    · have e : ((xs.length : Int) == 2) = false := by
        rw [beq_eq_false_iff_ne]
        omega
      simp only [e]
      have er : isModelD (.tuple xs) = false := by
        unfold isModelD
        split
        · rename_i q
          cases q
          exact absurd rfl hl
        · rfl
      rw [er]
      rfl
  | _ => rfl
end Ev

set_option Elab.async false
set_option linter.all false
set_option maxRecDepth 100000
set_option autoImplicit false
namespace Ev
open PySem
/-- from I the code ends well, keeps I, and its answer has P -/
def Ho {α : Type} (I : W → Prop) (x : M α) (P : α → Prop) : Prop := ∀ w, I w → ∃ a w', x w = .ok a w' ∧ I w' ∧ P a
section
variable {α β : Type} {I : W → Prop}
theorem Ho.ret {a : α} {P : α → Prop} (h : P a) : Ho I (ret a) P := fun w hw => ⟨a, w, rfl, hw, h⟩
theorem Ho.of {x : M α} {a : α} {P : α → Prop} (e : x = Ev.ret a) (h : P a) : Ho I x P := e ▸ Ho.ret h
theorem Ho.bnd {x : M α} {f : α → M β} {P : α → Prop} {Q : β → Prop} (h : Ho I x P) (k : ∀ a, P a → Ho I (f a) Q) : Ho I (Ev.bnd x f) Q := fun w hw => by
  obtain ⟨a, w1, e1, h1, p1⟩ := h w hw
  obtain ⟨c, w2, e2, h2, p2⟩ := k a p1 w1 h1
  exact ⟨c, w2, (bnd_ok e1).trans e2, h2, p2⟩
theorem Ho.imp {x : M α} {P Q : α → Prop} (h : Ho I x P) (k : ∀ a, P a → Q a) : Ho I x Q := fun w hw => by
  obtain ⟨a, w1, e1, h1, p1⟩ := h w hw
  exact ⟨a, w1, e1, h1, k a p1⟩
theorem Ho.nox {x : M α} {P : α → Prop} (h : Ho I x P) : Ho I (Ev.nox x) P := fun w hw => by
  obtain ⟨a, w1, e1, h1, p1⟩ := h w hw
  exact ⟨a, w1, nox_ok e1, h1, p1⟩
/-- a comprehension that keeps every item -/
theorem ho_comp {f : D → M (Option D)} {P : D → Prop} : ∀ (ds : List D), (∀ d ∈ ds, Ho I (f d) fun o => ∃ x, o = some x ∧ P x) → Ho I (compL f ds) fun xs => xs.length = ds.length ∧ ∀ x ∈ xs, P x
  | [], _ => Ho.ret ⟨rfl, fun x hx => nomatch hx⟩
  | d :: ds, h => by
    rw [compL]
    refine (h d List.mem_cons_self).bnd fun o ⟨x, e, px⟩ => (ho_comp ds fun d' hd' => h d' (List.mem_cons_of_mem _ hd')).bnd fun r ⟨hl, hr⟩ => ?_
    subst e
    refine Ho.ret ⟨by rw [List.length_cons, List.length_cons, hl], fun y hy => ?_⟩
    rcases List.mem_cons.mp hy with e | hy
    · rw [e]; exact px
    · exact hr y hy
/-- a comprehension that keeps some items as they are -/
theorem ho_filter {f : D → M (Option D)} : ∀ (ds : List D), (∀ d ∈ ds, Ho I (f d) fun o => o = none ∨ o = some d) → Ho I (compL f ds) fun xs => xs.Sublist ds
  | [], _ => Ho.ret (List.Sublist.refl _)
  | d :: ds, h => by
    rw [compL]
    refine (h d List.mem_cons_self).bnd fun o ho => (ho_filter ds fun d' hd' => h d' (List.mem_cons_of_mem _ hd')).bnd fun r hr => ?_
    rcases ho with e | e
    · subst e; exact Ho.ret (hr.cons d)
    · subst e; exact Ho.ret (hr.cons₂ d)
/-- a loop, by a word of the slots at each turn -/
theorem ho_for {f : D → Sl → M Fl} (J : Nat → Sl → Prop) : ∀ (ds : List D) (i : Nat) (s : Sl), J i s →
    (∀ (k : Nat) (d : D) (s : Sl), ds[k]? = some d → J (i + k) s → Ho I (f d s) fun r => (∃ s', r = .nx s' ∧ J (i + k + 1) s') ∨ ∃ s', r = .ct s' ∧ J (i + k + 1) s') → Ho I (forL f ds s) fun r => ∃ s', r = .nx s' ∧ J (i + ds.length) s'
  | [], i, s, h, _ => Ho.ret ⟨s, rfl, h⟩
  | d :: ds, i, s, h, step => by
    rw [forL]
    refine (step 0 d s rfl h).bnd fun r hr => ?_
    have go : ∀ s', J (i + 1) s' → Ho I (forL f ds s') fun r => ∃ s', r = .nx s' ∧ J (i + (d :: ds).length) s' := fun s' hs' => by
      refine (ho_for J ds (i + 1) s' hs' fun k d' s'' hk hJ => ?_).imp fun r ⟨s'', e, q⟩ => ⟨s'', e, by rw [List.length_cons, show i + (ds.length + 1) = i + 1 + ds.length by omega]; exact q⟩
      have := step (k + 1) d' s'' hk (by rw [show i + (k + 1) = i + 1 + k by omega]; exact hJ)
      rw [show i + (k + 1) + 1 = i + 1 + k + 1 by omega] at this
      exact this
    rcases hr with ⟨s', e, hs'⟩ | ⟨s', e, hs'⟩
    · subst e; exact go s' hs'
    · subst e; exact go s' hs'
end
def TownOk (rs : List (Int × Int)) : Prop := (rs.map (·.1)).Nodup ∧ ∀ p ∈ rs, 0 ≤ p.1 ∧ p.1 < 64
def Tn (w : W) : Prop := ∃ c rs tl, w = .town c rs :: tl ∧ TownOk rs
theorem town_len {rs : List (Int × Int)} (h : TownOk rs) : rs.length < 1000 := by
  have h1 : (rs.map fun p => p.1.toNat).Nodup := by
    have := h.1
    rw [List.Nodup, List.pairwise_map] at this ⊢
    refine List.Pairwise.imp_of_mem (fun {a b} ha hb hne e => hne ?_) this
    have := (h.2 a ha).1
    have := (h.2 b hb).1
    omega
  have h2 := L2.nat_nodup_len _ (List.range 64) h1 fun x hx => by
    obtain ⟨p, hp, rfl⟩ := List.mem_map.mp hx
    have := h.2 p hp
    exact List.mem_range.mpr (by omega)
  rw [List.length_map, List.length_range] at h2
  omega
theorem putI_ok {rs : List (Int × Int)} {x v : Int} (h : TownOk rs) (h0 : 0 ≤ x) (h1 : x < 64) : TownOk (putI rs x v) := by
  unfold putI
  split
  · have e : (rs.map fun p => if p.1 = x then (p.1, v) else p).map (·.1) = rs.map (·.1) := by
      rw [List.map_map]
      refine List.map_congr_left fun p _ => ?_
      show (if p.1 = x then (p.1, v) else p).1 = p.1
      split <;> rfl
    refine ⟨by rw [e]; exact h.1, fun p hp => ?_⟩
    obtain ⟨q, hq, rfl⟩ := List.mem_map.mp hp
    have := h.2 q hq
    split <;> exact this
  · rename_i hn
    refine ⟨?_, fun p hp => ?_⟩
    · rw [List.map_append, List.map_cons, List.map_nil]
      refine List.nodup_append.mpr ⟨h.1, by simp, fun a ha b hb e => ?_⟩
      rw [List.mem_singleton] at hb
      subst hb
      subst e
      obtain ⟨p, hp, e⟩ := List.mem_map.mp ha
      exact hn (List.any_eq_true.mpr ⟨p, hp, by simp [e]⟩)
    · rcases List.mem_append.mp hp with q | q
      · exact h.2 p q
      · rw [List.mem_singleton] at q
        subst q
        exact ⟨h0, h1⟩
/-- the town, and behind it what it was -/
def TnT (tl : W) (w : W) : Prop := ∃ c rs, w = .town c rs :: tl ∧ TownOk rs
/-- the contract of _law_draw -/
abbrev DrawOkI (I : W → Prop) (cf : CF) (i : Nat) : Prop := ∀ many : Int, 0 < many → many < 1073741824 → Ho I (cf i [scrD, obD 0, .int many]) fun d => ∃ r, d = .int r ∧ 0 ≤ r ∧ r < many
abbrev DrawOk (cf : CF) (i : Nat) : Prop := DrawOkI Tn cf i
theorem draw_okT {tl : W} {ns : List Int} (hl : ns.length ≤ 63) {many : Int} (h0 : 0 < many) (h1 : many < 1073741824) : Ho (TnT tl) (drawP ns [scrD, obD 0, .int many]) fun d => ∃ r, d = .int r ∧ 0 ≤ r ∧ r < many := by
  intro w ⟨c, rs, e, ht⟩
  subst e
  have hlen := town_len ht
  have e1 : drawP ns [scrD, obD 0, .int many] (.town c rs :: tl) = drawT ns c rs many 0 (.town c rs :: tl) := by
    show (if 0 < many ∧ many < 1073741824 ∧ rs.length < 1000 then drawT ns c rs many 0 else bad) (MO.town c rs :: tl) = _
    rw [if_pos (show 0 < many ∧ many < 1073741824 ∧ rs.length < 1000 from ⟨h0, h1, hlen⟩)]
  rw [e1]
  refine ⟨_, _, rfl, ?_, _, rfl, ?_, ?_⟩
  · refine ⟨c + 1, _, rfl, ?_⟩
    split
    · refine putI_ok ht ?_ ?_
      · unfold atS
        split
        · decide
        · rename_i hn
          exact Int.emod_nonneg _ (by have := List.length_pos_iff.mpr hn; omega)
      · unfold atS
        split
        · decide
        · rename_i hn
          have := Int.emod_lt_of_pos (c + 1) (b := (ns.length : Int)) (by have := List.length_pos_iff.mpr hn; omega)
          omega
    · exact ht
  · unfold drawR
    split <;> exact Int.emod_nonneg _ (by omega)
  · unfold drawR
    split <;> exact Int.emod_lt_of_pos _ h0
theorem draw_ok {ns : List Int} (hl : ns.length ≤ 63) {many : Int} (h0 : 0 < many) (h1 : many < 1073741824) : Ho Tn (drawP ns [scrD, obD 0, .int many]) fun d => ∃ r, d = .int r ∧ 0 ≤ r ∧ r < many := by
  intro w ⟨c, rs, tl, e, ht⟩
  obtain ⟨a, w', e', ⟨c', rs', e2, ht'⟩, p⟩ := draw_okT (tl := tl) hl h0 h1 w ⟨c, rs, e, ht⟩
  exact ⟨a, w', e', ⟨c', rs', tl, e2, ht'⟩, p⟩
end Ev

set_option Elab.async false
set_option linter.all false
set_option maxRecDepth 100000
set_option autoImplicit false
namespace Ev
open PySem
def cbD (c : List (Int × Int)) : D := .tuple (c.map prI)
structure CbOk (ns : List Int) (c : List (Int × Int)) : Prop where
  ne : c ≠ []
  rng : ∀ p ∈ c, 0 ≤ p.1 ∧ p.1 < ns.length ∧ 0 ≤ p.2 ∧ p.2 < ns.getD p.1.toNat 0
  asc : c.Pairwise fun a b => a.1 < b.1
theorem asc_ints : ∀ is : List Int, ascB (is.map .int) = true ↔ is.Pairwise (· < ·)
  | [] => by simp [ascB]
  | [x] => by simp [ascB]
  | x :: y :: r => by
    have ih := asc_ints (y :: r)
    rw [List.map_cons] at ih
    rw [List.map_cons, List.map_cons, ascB, Bool.and_eq_true, ih, PySem.W.dataLt_int, decide_eq_true_eq, List.pairwise_cons (a := x)]
    constructor
    · rintro ⟨h1, h2⟩
      refine ⟨fun z hz => ?_, h2⟩
      rcases List.mem_cons.mp hz with e | hz
      · rw [e]; exact h1
      · exact Int.lt_trans h1 ((List.pairwise_cons.mp h2).1 z hz)
    · rintro ⟨h1, h2⟩
      exact ⟨h1 y List.mem_cons_self, h2⟩
theorem isPair_iff {ns : List Int} {p : Int × Int} : isPairD ns (prI p) = true ↔ 0 ≤ p.1 ∧ p.1 < ns.length ∧ 0 ≤ p.2 ∧ p.2 < ns.getD p.1.toNat 0 := by
  show (decide (0 ≤ p.1) && decide (p.1 < ns.length) && decide (0 ≤ p.2) && decide (p.2 < ns.getD p.1.toNat 0)) = true ↔ _
  simp only [Bool.and_eq_true, decide_eq_true_eq]
  exact ⟨fun h => ⟨h.1.1.1, h.1.1.2, h.1.2, h.2⟩, fun h => ⟨⟨⟨h.1, h.2.1⟩, h.2.2.1⟩, h.2.2.2⟩⟩
theorem isComb_iff {ns : List Int} {c : List (Int × Int)} : isCombD ns (cbD c) = true ↔ CbOk ns c := by
  have e : (c.map prI).map fstD = (c.map (·.1)).map .int := by rw [List.map_map, List.map_map]; rfl
  simp only [isCombD, cbD, Bool.and_eq_true, e, asc_ints, List.pairwise_map, List.all_map, List.all_eq_true, Function.comp_def, isPair_iff, Bool.not_eq_true']
  constructor
  · rintro ⟨⟨h1, h2⟩, h3⟩
    exact ⟨fun e => by rw [e] at h1; simp at h1, h2, h3⟩
  · intro h
    refine ⟨⟨?_, h.rng⟩, h.asc⟩
    have := h.ne
    cases c with
    | nil => exact absurd rfl this
    | cons _ _ => rfl
theorem cb_len {ns : List Int} {c : List (Int × Int)} (h : CbOk ns c) : c.length ≤ ns.length := by
  have h1 : (c.map fun p => p.1.toNat).Nodup := by
    rw [List.Nodup, List.pairwise_map]
    refine List.Pairwise.imp_of_mem (fun {a b} ha hb hlt e => ?_) h.asc
    have := (h.rng a ha).1
    have := (h.rng b hb).1
    omega
  have h2 := L2.nat_nodup_len _ (List.range ns.length) h1 fun x hx => by
    obtain ⟨p, hp, rfl⟩ := List.mem_map.mp hx
    have := h.rng p hp
    exact List.mem_range.mpr (by omega)
  rw [List.length_map, List.length_range] at h2
  exact h2
def kvI (ps : List (Int × Int)) : List (D × D) := ps.map fun p => (.int p.1, .int p.2)
theorem putD_kv (ps : List (Int × Int)) (x v : Int) : putD (.int x) (.int v) (kvI ps) = kvI (putI ps x v) := by
  have ea : ((kvI ps).any fun p => PyData.eqv p.1 (.int x)) = ps.any fun p => decide (p.1 = x) := by
    unfold kvI
    rw [List.any_map]
    have : ((fun p : D × D => PyData.eqv p.1 (.int x)) ∘ fun p : Int × Int => ((.int p.1 : D), (.int p.2 : D))) = fun p => decide (p.1 = x) := by
      funext p
      show PyData.eqv (.int p.1) (.int x) = _
      rw [Bool.eq_iff_iff]
      simp [PyData.eqv]
    rw [this]
  unfold putD putI
  rw [ea]
  split
  · unfold kvI
    rw [List.map_map, List.map_map]
    refine List.map_congr_left fun p _ => ?_
    show (if PyData.eqv (.int p.1) (.int x) = true then ((.int p.1 : D), (.int v : D)) else (.int p.1, .int p.2)) = _
    by_cases h : p.1 = x
    · simp [PyData.eqv, h]
    · simp [PyData.eqv, h]
  · unfold kvI
    rw [List.map_append]
    rfl
theorem putI_mem {ps : List (Int × Int)} {x v : Int} {q : Int × Int} (h : q ∈ putI ps x v) : q ∈ ps ∨ q = (x, v) := by
  unfold putI at h
  split at h
  · obtain ⟨p, hp, e⟩ := List.mem_map.mp h
    split at e
    · rename_i hx
      right
      rw [← e, hx]
    · left
      rw [← e]
      exact hp
  · rcases List.mem_append.mp h with q' | q'
    · exact .inl q'
    · exact .inr (List.mem_singleton.mp q')
theorem putI_nodup {ps : List (Int × Int)} {x v : Int} (h : (ps.map (·.1)).Nodup) : ((putI ps x v).map (·.1)).Nodup := by
  unfold putI
  split
  · have e : (ps.map fun p => if p.1 = x then (p.1, v) else p).map (·.1) = ps.map (·.1) := by
      rw [List.map_map]
      refine List.map_congr_left fun p _ => ?_
      show (if p.1 = x then (p.1, v) else p).1 = p.1
      split <;> rfl
    rw [e]
    exact h
  · rename_i hn
    rw [List.map_append, List.map_cons, List.map_nil]
    refine List.nodup_append.mpr ⟨h, by simp, fun a ha b hb e => ?_⟩
    rw [List.mem_singleton] at hb
    subst hb
    subst e
    obtain ⟨p, hp, e⟩ := List.mem_map.mp ha
    exact hn (List.any_eq_true.mpr ⟨p, hp, by simp [e]⟩)
theorem putI_ne (ps : List (Int × Int)) (x v : Int) : putI ps x v ≠ [] := by
  unfold putI
  split
  · rename_i h
    intro e
    rw [List.map_eq_nil_iff] at e
    rw [e] at h
    simp at h
  · simp
theorem putI_len (ps : List (Int × Int)) (x v : Int) : (putI ps x v).length ≤ ps.length + 1 := by
  unfold putI
  split
  · rw [List.length_map]; omega
  · rw [List.length_append]; exact Nat.le_refl _
/-- what sorted makes of the pairs -/
theorem sort_prs (ps : List (Int × Int)) (h : (ps.map (·.1)).Nodup) : ∃ c : List (Int × Int), c.Perm ps ∧ sortD (ps.map prI) = c.map prI ∧ c.Pairwise fun a b => a.1 < b.1 := by
  obtain ⟨c, pc, e⟩ := perm_of_map prI (sortD_perm (ps.map prI))
  refine ⟨c, pc, e, ?_⟩
  have hs := sortD_sorted (ps.map prI)
  rw [e, List.pairwise_map] at hs
  have hn : (c.map (·.1)).Nodup := (pc.map (·.1)).nodup_iff.mpr h
  rw [List.Nodup, List.pairwise_map] at hn
  refine (hs.and hn).imp fun {a b} ⟨h1, h2⟩ => ?_
  rw [leS_eq, Bool.not_eq_true'] at h1
  have h1 : PySem.W.dataLt (.tuple [.int b.1, .int b.2]) (.tuple [.int a.1, .int a.2]) = false := h1
  rw [PySem.W.dataLt_ii, decide_eq_false_iff_not] at h1
  omega
abbrev CombinOkI (I : W → Prop) (cf : CF) (i : Nat) : Prop := ∀ (ns : List Int) (most : Int), ns ≠ [] → (∀ n ∈ ns, 0 < n ∧ n < 1000) → ns.length < 1000 → 0 < most → most < 1000 → Ho I (cf i [scrD, obD 0, szD ns, .int most]) fun d => ∃ c, d = cbD c ∧ CbOk ns c ∧ (c.length : Int) ≤ most
abbrev CombinOk (cf : CF) (i : Nat) : Prop := CombinOkI Tn cf i
/-- between the turns -/
def JC (ns : List Int) (most : Int) (k : Nat) (s : Sl) : Prop := ∃ ps x5 x6, s = [some (.i scrD), some (.i (obD 0)), some (.i (szD ns)), some (.i (.int most)), some (.m (kvI ps)), x5, x6] ∧ (ps.map (·.1)).Nodup ∧ (∀ p ∈ ps, 0 ≤ p.1 ∧ p.1 < ns.length ∧ 0 ≤ p.2 ∧ p.2 < ns.getD p.1.toNat 0) ∧ (0 < k → ps ≠ []) ∧ ps.length ≤ k
theorem range_ok {n : Int} (h0 : 0 ≤ n) (h1 : n < 16777216) : rangeD 0 n = some ((List.range n.toNat).map fun (k : Nat) => .int k) := by
  unfold rangeD
  rw [if_pos ⟨by omega, by omega, by omega, by omega, by unfold LIM; omega⟩]
  simp
theorem len_sz (ns : List Int) : lenD (szD ns) = some (.int ns.length) := by simp [szD, lenD]
theorem getD_mem {ns : List Int} {p : Int} (h0 : 0 ≤ p) (h1 : p < ns.length) : ns.getD p.toNat 0 ∈ ns := by
  have hl : p.toNat < ns.length := by omega
  rw [List.getD_eq_getElem?_getD, List.getElem?_eq_getElem hl]
  exact List.getElem_mem hl
theorem keys_kv (ps : List (Int × Int)) : ((kvI ps).all fun p => keyOk p.1) = true := by
  unfold kvI
  rw [List.all_map]
  exact List.all_eq_true.mpr fun p _ => rfl
theorem ky_kv (x : Int) (ps : List (Int × Int)) : kyOk (.int x) (kvI ps) = true := by
  unfold kyOk
  rw [keys_kv ps]
  rfl
theorem ev_law_combination {I : W → Prop} {cf : CF} {i : Nat} (fu : Nat) (hD : DrawOkI I cf i) (ns : List Int) (most : Int) (hne : ns ≠ []) (hn : ∀ n ∈ ns, 0 < n ∧ n < 1000) (hnl : ns.length < 1000) (hm : 0 < most) (hm2 : most < 1000) :
    Ho I (runF cf fu (f_law_combination i) [scrD, obD 0, szD ns, .int most]) fun d => ∃ c, d = cbD c ∧ CbOk ns c ∧ (c.length : Int) ≤ most := by
  rw [run_code cf fu (f := f_law_combination i) rfl (s0 := [some (.i scrD), some (.i (obD 0)), some (.i (szD ns)), some (.i (.int most)), none, none, none]) rfl]
  simp [f_law_combination, mutS]
  refine (hD most hm (by omega)).bnd fun d ⟨r, e, r0, r1⟩ => ?_
  subst e
  simp only [op_add, m_lift, m_bnd, intD, range_ok (n := 1 + r) (by omega) (by omega)]
  refine (ho_for (JC ns most) _ 0 _ ⟨[], none, none, rfl, List.nodup_nil, fun p hp => (nomatch hp), fun h => absurd h (Nat.lt_irrefl _), Nat.le_refl _⟩ fun k d s hk ⟨ps, x5, x6, es, h1, h2, h3, h4⟩ => ?_).bnd fun fl ⟨s', ef, ps, x5, x6, es, h1, h2, h3, h4⟩ => ?_
  · subst es
    have hkr : k < (1 + r).toNat := by
      have := (List.getElem?_eq_some_iff.mp hk).1
      rw [List.length_map, List.length_range] at this
      exact this
    simp [turnF, bindT, biD, len_sz]
    have hpos := List.length_pos_iff.mpr hne
    refine (hD ns.length (by omega) (by omega)).bnd fun dp ⟨q, e, q0, q1⟩ => ?_
    subst e
    rw [ixD_sz q0 q1, m_lift, m_bnd]
    obtain ⟨m0, m1⟩ := hn _ (getD_mem q0 q1)
    refine (hD _ m0 (by omega)).bnd fun dv ⟨v, e, v0, v1⟩ => ?_
    subst e
    have hl : (kvI ps).length < LIM := by
      unfold kvI LIM
      rw [List.length_map]
      omega
    rw [if_pos ⟨ky_kv q ps, hl⟩, putD_kv, m_bnd, at_nx, b_nil]
    refine Ho.ret (.inl ⟨_, rfl, putI ps q v, _, _, rfl, putI_nodup h1, fun p hp => ?_, fun _ => putI_ne _ _ _, Nat.le_trans (putI_len _ _ _) (by omega)⟩)
    rcases putI_mem hp with z | z
    · exact h2 p z
    · rw [z]; exact ⟨q0, q1, v0, v1⟩
  · subst ef es
    obtain ⟨c, pc, ec, hc⟩ := sort_prs ps h1
    have e1 : ((kvI ps).all fun p => isInt p.1 && isInt p.2) = true := by
      unfold kvI
      rw [List.all_map]
      exact List.all_eq_true.mpr fun p _ => rfl
    rw [List.length_map, List.length_range] at h3 h4
    have e2 : sitemsD (.dict (kvI ps)) = some (.list (c.map prI)) := by
      have hl : (kvI ps).length ≤ LIM := by
        unfold kvI LIM
        rw [List.length_map]
        omega
      show (if _ then _ else _) = _
      rw [if_pos (by rw [e1, decide_eq_true hl]; rfl)]
      have : (kvI ps).map pairD = ps.map prI := by unfold kvI; rw [List.map_map]; rfl
      rw [this, ec]
    simp [biD, e2, tupleD]
    refine Ho.ret ⟨c, rfl, ⟨fun e => h3 (by omega) ?_, fun p hp => h2 p (pc.mem_iff.mp hp), hc⟩, ?_⟩
    · rw [e] at pc
      exact List.Perm.eq_nil pc.symm
    · rw [pc.length_eq]
      omega
end Ev

set_option Elab.async false
set_option linter.all false
set_option maxRecDepth 100000
set_option autoImplicit false
namespace Ev
open PySem
def mdD (ns : List Int) (cs : List (List (Int × Int))) : D := .tuple [szD ns, .tuple (cs.map cbD)]
/-- a model: at most b sizes of at most v values, at most r rules -/
structure MdOk (b v r : Nat) (ns : List Int) (cs : List (List (Int × Int))) : Prop where
  len : 2 ≤ ns.length ∧ ns.length ≤ b
  siz : ∀ n ∈ ns, 2 ≤ n ∧ n ≤ v
  rul : cs.length ≤ r
  cmb : ∀ c ∈ cs, CbOk ns c
  asc : ascB (cs.map cbD) = true
theorem toI_map (ns : List Int) : (ns.map PyData.int).map toI = ns := by rw [List.map_map]; exact List.map_id' ns
theorem isModel_of {b v r : Nat} {ns : List Int} {cs : List (List (Int × Int))} (h : MdOk b v r ns cs) (hb : b ≤ 5) (hv : v ≤ 4) (hr : r ≤ 8) : isModelD (mdD ns cs) = true := by
  show (decide (2 ≤ (ns.map PyData.int).length) && decide ((ns.map PyData.int).length ≤ 5) && (ns.map PyData.int).all sizeOk && decide ((cs.map cbD).length ≤ 8) && (cs.map cbD).all (isCombD ((ns.map PyData.int).map toI)) && ascB (cs.map cbD)) = true
  have h1 := h.len
  have h2 := h.rul
  rw [toI_map, List.length_map, List.length_map, h.asc, Bool.and_true]
  simp only [Bool.and_eq_true, decide_eq_true_eq, List.all_map, List.all_eq_true, Function.comp_def]
  refine ⟨⟨⟨⟨h1.1, by omega⟩, fun n hn => ?_⟩, by omega⟩, fun c hc => isComb_iff.mpr (h.cmb c hc)⟩
  have := h.siz n hn
  simp only [sizeOk, Bool.and_eq_true, decide_eq_true_eq]
  omega
theorem nk_prs (c : List (Int × Int)) : nkAll (c.map prI) = true := by
  induction c with
  | nil => rfl
  | cons p c ih => rw [List.map_cons, nkAll, ih]; rfl
theorem nk_cb (c : List (Int × Int)) : nkOk (cbD c) = true := nk_prs c
theorem depth_prs (c : List (Int × Int)) : PyData.depthAll (c.map prI) ≤ 1 := by
  rw [depth_all]
  intro x hx
  obtain ⟨p, _, rfl⟩ := List.mem_map.mp hx
  exact Nat.le_refl 1
theorem depth_cb (c : List (Int × Int)) : (cbD c).depth ≤ 2 := by
  show PyData.depthAll (c.map prI) + 1 ≤ 2
  have := depth_prs c
  omega
theorem lay_prs (c : List (Int × Int)) : PyData.canLayAll0 (c.map prI) = true := by
  rw [canLay_all]
  intro x hx
  obtain ⟨p, _, rfl⟩ := List.mem_map.mp hx
  rfl
theorem pl_cb (c : List (Int × Int)) : Pl (cbD c) := pl_iff.mpr ⟨lay_prs c, Nat.le_trans (depth_cb c) (by decide)⟩
theorem alike_cb (c c' : List (Int × Int)) : PySem.W.alike (cbD c) (cbD c') = true := by
  show PySem.W.alike (.tuple (c.map prI)) (.tuple (c'.map prI)) = true
  rw [PySem.W.alike]
  exact alike_prs c c'
theorem prI_inj {p q : Int × Int} (h : prI p = prI q) : p = q := by
  simp only [prI, PyData.tuple.injEq, List.cons.injEq, PyData.int.injEq, and_true] at h
  exact Prod.ext h.1 h.2
theorem map_inj {α β : Type} {f : α → β} (hf : ∀ a b, f a = f b → a = b) : ∀ {l m : List α}, l.map f = m.map f → l = m
  | [], [], _ => rfl
  | [], _ :: _, h => by cases h
  | _ :: _, [], h => by cases h
  | a :: l, b :: m, h => by
    simp only [List.map_cons, List.cons.injEq] at h
    rw [hf a b h.1, map_inj hf h.2]
theorem cbD_inj {c c' : List (Int × Int)} (h : cbD c = cbD c') : c = c' := by
  simp only [cbD, PyData.tuple.injEq] at h
  exact map_inj (fun _ _ => prI_inj) h
/-- sorted without repetition: strictly upwards -/
theorem asc_sorted : ∀ {xs : List D}, (∀ x ∈ xs, nkOk x = true) → (∀ x ∈ xs, ∀ y ∈ xs, PySem.W.alike x y = true) → xs.Pairwise (fun a c => leS a c = true) → xs.Nodup → ascB xs = true
  | [], _, _, _, _ => rfl
  | [_], _, _, _, _ => rfl
  | x :: y :: r, h1, h2, h3, h4 => by
    rw [ascB, Bool.and_eq_true]
    refine ⟨?_, asc_sorted (fun z hz => h1 z (List.mem_cons_of_mem _ hz)) (fun z hz u hu => h2 z (List.mem_cons_of_mem _ hz) u (List.mem_cons_of_mem _ hu)) (List.pairwise_cons.mp h3).2 (List.nodup_cons.mp h4).2⟩
    have hx : x ∈ x :: y :: r := List.mem_cons_self
    have hy : y ∈ x :: y :: r := List.mem_cons_of_mem _ List.mem_cons_self
    have hl := (List.pairwise_cons.mp h3).1 y List.mem_cons_self
    rw [leS_eq, Bool.not_eq_true'] at hl
    cases q : PySem.W.dataLt x y with
    | true => rfl
    | false =>
      exfalso
      have e := eqv_nk x y (h1 x hx) (h1 y hy) (lt_eqv (h2 x hx y hy) q hl)
      exact (List.nodup_cons.mp h4).1 (by rw [e]; exact List.mem_cons_self)
theorem dedD_len : ∀ l : List D, (dedD l).length ≤ l.length
  | [] => Nat.le_refl _
  | x :: xs => by
    have := dedD_len xs
    unfold dedD
    split
    · rw [List.length_cons]; omega
    · rw [List.length_cons, List.length_cons]; omega
/-- sorted(set(..)) of combinations -/
theorem sset_cb (cs : List (List (Int × Int))) (hne : ∀ c ∈ cs, c ≠ []) (hl : cs.length < 64) : ∃ cs' : List (List (Int × Int)), ssetD (.list (cs.map cbD)) = some (.list (cs'.map cbD)) ∧ ascB (cs'.map cbD) = true ∧ (∀ c, c ∈ cs' ↔ c ∈ cs) ∧ cs'.length ≤ cs.length := by
  have nk : ∀ x ∈ cs.map cbD, nkOk x = true := fun x hx => by
    obtain ⟨c, _, rfl⟩ := List.mem_map.mp hx
    exact nk_cb c
  have al : ∀ x ∈ cs.map cbD, ∀ y ∈ cs.map cbD, PySem.W.alike x y = true := fun x hx y hy => by
    obtain ⟨c, _, rfl⟩ := List.mem_map.mp hx
    obtain ⟨c', _, rfl⟩ := List.mem_map.mp hy
    exact alike_cb c c'
  have so : sortOk (cs.map cbD) = true := by
    unfold sortOk
    simp only [Bool.and_eq_true, Bool.or_eq_true, List.all_eq_true]
    refine ⟨⟨al, .inl fun x hx => ?_⟩, fun x hx => ?_⟩
    · obtain ⟨c, hc, rfl⟩ := List.mem_map.mp hx
      have := hne c hc
      cases c with
      | nil => exact absurd rfl this
      | cons p c => rfl
    · obtain ⟨c, _, rfl⟩ := List.mem_map.mp hx
      exact pl_cb c
  have mem : ∀ x, x ∈ sortD (dedD (cs.map cbD)) ↔ x ∈ cs.map cbD := fun x => (sortD_perm _).mem_iff.trans (dedD_mem nk)
  have shape : ∀ l : List D, (∀ x ∈ l, x ∈ cs.map cbD) → ∃ l' : List (List (Int × Int)), l = l'.map cbD := by
    intro l
    induction l with
    | nil => intro _; exact ⟨[], rfl⟩
    | cons x l ih =>
      intro h
      obtain ⟨l', e⟩ := ih fun y hy => h y (List.mem_cons_of_mem _ hy)
      obtain ⟨c, _, ec⟩ := List.mem_map.mp (h x List.mem_cons_self)
      exact ⟨c :: l', by rw [List.map_cons, e, ec]⟩
  obtain ⟨cs', e⟩ := shape (sortD (dedD (cs.map cbD))) fun x hx => (mem x).mp hx
  refine ⟨cs', ?_, ?_, fun c => ?_, ?_⟩
  · show (if _ then _ else _) = _
    rw [if_pos, e]
    simp only [Bool.and_eq_true, List.all_eq_true, decide_eq_true_eq]
    refine ⟨⟨fun x hx => ?_, by rw [List.length_map]; exact hl⟩, so⟩
    obtain ⟨c, _, rfl⟩ := List.mem_map.mp hx
    exact ⟨⟨rfl, nk_cb c⟩, Nat.le_trans (depth_cb c) (by decide)⟩
  · rw [← e]
    refine asc_sorted (fun x hx => nk x ((mem x).mp hx)) (fun x hx y hy => al x ((mem x).mp hx) y ((mem y).mp hy)) (sortD_sorted _) ((sortD_perm _).nodup_iff.mpr (dedD_nodup nk))
  · have h1 := mem (cbD c)
    rw [e] at h1
    constructor
    · intro hc
      obtain ⟨c', hc', ec⟩ := List.mem_map.mp (h1.mp (List.mem_map.mpr ⟨c, hc, rfl⟩))
      rw [← cbD_inj ec]; exact hc'
    · intro hc
      obtain ⟨c', hc', ec⟩ := List.mem_map.mp (h1.mpr (List.mem_map.mpr ⟨c, hc, rfl⟩))
      rw [← cbD_inj ec]; exact hc'
  · have h1 : (sortD (dedD (cs.map cbD))).length = cs'.length := by rw [e, List.length_map]
    rw [← h1, sortD_length]
    have := dedD_len (cs.map cbD)
    rw [List.length_map] at this
    exact this

theorem szD_of {xs : List D} {v : Int} (h : ∀ x ∈ xs, ∃ n : Int, x = .int n ∧ 2 ≤ n ∧ n ≤ v) : ∃ ns : List Int, xs = ns.map .int ∧ ∀ n ∈ ns, 2 ≤ n ∧ n ≤ v := by
  induction xs with
  | nil => exact ⟨[], rfl, fun n hn => (nomatch hn)⟩
  | cons x xs ih =>
    obtain ⟨ns, e, hn⟩ := ih fun y hy => h y (List.mem_cons_of_mem _ hy)
    obtain ⟨n, ex, h2⟩ := h x List.mem_cons_self
    refine ⟨n :: ns, by rw [e, ex]; rfl, fun m hm => ?_⟩
    rcases List.mem_cons.mp hm with z | z
    · rw [z]; exact h2
    · exact hn m z
theorem cbs_of {xs : List D} {P : List (Int × Int) → Prop} (h : ∀ x ∈ xs, ∃ c, x = cbD c ∧ P c) : ∃ cs : List (List (Int × Int)), xs = cs.map cbD ∧ ∀ c ∈ cs, P c := by
  induction xs with
  | nil => exact ⟨[], rfl, fun n hn => (nomatch hn)⟩
  | cons x xs ih =>
    obtain ⟨cs, e, hn⟩ := ih fun y hy => h y (List.mem_cons_of_mem _ hy)
    obtain ⟨c, ex, h2⟩ := h x List.mem_cons_self
    refine ⟨c :: cs, by rw [e, ex]; rfl, fun m hm => ?_⟩
    rcases List.mem_cons.mp hm with z | z
    · rw [z]; exact h2
    · exact hn m z
theorem op_eq_int (a b : Int) : opD .eq (.int a) (.int b) = some (.bool (a == b)) := by
  rw [op_eq (pl_int a) (pl_int b)]
  rfl
abbrev ModelDrawI (I : W → Prop) (cf : CF) (i : Nat) : Prop := ∀ b v r : Nat, 2 ≤ b → b < 1000 → 2 ≤ v → v < 1000 → r < 60 → Ho I (cf i [scrD, obD 0, .int b, .int v, .int r]) fun d => ∃ ns cs, d = mdD ns cs ∧ MdOk b v r ns cs ∧ ∀ c ∈ cs, c.length ≤ 3
abbrev ModelDraw (cf : CF) (i : Nat) : Prop := ModelDrawI Tn cf i
theorem ev_law_model {I : W → Prop} {cf : CF} {ic i : Nat} (fu : Nat) (hD : DrawOkI I cf i) (hC : CombinOkI I cf ic) (b v r : Nat) (hb : 2 ≤ b) (hb2 : b < 1000) (hv : 2 ≤ v) (hv2 : v < 1000) (hr : r < 60) :
    Ho I (runF cf fu (f_law_model ic i) [scrD, obD 0, .int b, .int v, .int r]) fun d => ∃ ns cs, d = mdD ns cs ∧ MdOk b v r ns cs ∧ ∀ c ∈ cs, c.length ≤ 3 := by
  rw [run_code cf fu (f := f_law_model ic i) rfl (s0 := [some (.i scrD), some (.i (obD 0)), some (.i (.int b)), some (.i (.int v)), some (.i (.int r)), none, none, none, none]) rfl]
  simp [f_law_model, evE_comp, wipeA]
  refine (hD (b - 1) (by omega) (by omega)).bnd fun d ⟨q, e, q0, q1⟩ => ?_
  subst e
  simp only [op_add, m_lift, m_bnd, intD, range_ok (n := 2 + q) (by omega) (by omega)]
  refine ((ho_comp (P := fun x => ∃ n : Int, x = .int n ∧ 2 ≤ n ∧ n ≤ (v : Int)) _ fun d hd => ?_).nox).bnd fun xs ⟨hl, hx⟩ => ?_
  · simp [turnC, bindT]
    refine (hD (v - 1) (by omega) (by omega)).bnd fun d ⟨n, e, n0, n1⟩ => ?_
    subst e
    simp only [op_add, m_lift, m_bnd]
    exact Ho.ret ⟨_, rfl, 2 + n, rfl, by omega, by omega⟩
  obtain ⟨ns, exs, hns⟩ := szD_of hx
  subst exs
  rw [List.length_map, List.length_map, List.length_range] at hl
  simp [biD, tupleD, bindT]
  refine (hD (r + 1) (by omega) (by omega)).bnd fun d ⟨t, e, t0, t1⟩ => ?_
  subst e
  simp only [m_lift, m_bnd, intD, range_ok (n := t) (by omega) (by omega)]
  have hne : ns ≠ [] := fun e => by rw [e] at hl; simp at hl; omega
  have hsz : PyData.tuple (ns.map .int) = szD ns := rfl
  simp only [hsz]
  refine ((ho_comp (P := fun x => ∃ c, x = cbD c ∧ CbOk ns c ∧ (c.length : Int) ≤ 3) _ fun d hd => ?_).nox).bnd fun xs ⟨hl2, hx2⟩ => ?_
  · simp [turnC, bindT]
    refine (hC ns 3 hne (fun n hn => ?_) (by omega) (by omega) (by omega)).bnd fun d h => ?_
    · have := hns n hn
      omega
    · exact Ho.ret ⟨_, rfl, h⟩
  obtain ⟨cs0, ecs, hcs⟩ := cbs_of hx2
  subst ecs
  rw [List.length_map, List.length_map, List.length_range] at hl2
  simp [seqD, biD]
  refine ((ho_filter (cs0.map cbD) fun d hd => ?_).nox).bnd fun xs hsub => ?_
  · obtain ⟨c, hc, rfl⟩ := List.mem_map.mp hd
    have ec : lenD (cbD c) = some (.int c.length) := by simp [cbD, lenD]
    simp [turnC, bindT, biD, ec]
    by_cases h1 : (1 : Int) < (c.length : Int)
    · simp [h1]
      exact Ho.ret (.inr rfl)
    · simp [h1]
      refine (hD 3 (by omega) (by omega)).bnd fun d ⟨u, e, u0, u1⟩ => ?_
      subst e
      simp only [op_eq_int, Option.bind_some, boolD_b, m_lift, m_bnd]
      cases hu : (u == 0) with
      | true => simp; exact Ho.ret (.inr rfl)
      | false => simp; exact Ho.ret (.inl rfl)
  have hmem : ∀ x ∈ xs, ∃ c, x = cbD c ∧ (CbOk ns c ∧ (c.length : Int) ≤ 3) := fun x hx => by
    obtain ⟨c, hc, rfl⟩ := List.mem_map.mp (hsub.subset hx)
    exact ⟨c, rfl, hcs c hc⟩
  obtain ⟨cs1, ecs1, hcs1⟩ := cbs_of hmem
  subst ecs1
  have hlen := hsub.length_le
  rw [List.length_map, List.length_map] at hlen
  obtain ⟨cs, e1, e2, e3, e4⟩ := sset_cb cs1 (fun c hc => (hcs1 c hc).1.ne) (by omega)
  simp [e1, tupleD, LIM]
  refine Ho.ret ⟨ns, cs, rfl, ⟨⟨by omega, by omega⟩, hns, by omega, fun c hc => (hcs1 c ((e3 c).mp hc)).1, e2⟩, fun c hc => ?_⟩
  have := (hcs1 c ((e3 c).mp hc)).2
  omega
end Ev

set_option Elab.async false
set_option linter.all false
set_option maxRecDepth 100000
set_option autoImplicit false
namespace Ev
open PySem
abbrev ModelOk (cf : CF) (i : Nat) : Prop := ∀ d, Pl d → cf i [d] = ret (.bool (isModelD d))
theorem ev_check_model {cf : CF} {im x : Nat} (fu : Nat) (hM : ModelOk cf im) {d : D} (h : Pl d) : runF cf fu (f_check_model im x) [d] = if isModelD d = true then ret .none else thr x := by
  rw [run_code cf fu (f := f_check_model im x) rfl (s0 := [some (.i d)]) rfl]
  simp [f_check_model, hM d h, truD]
  cases isModelD d <;> rfl
abbrev CheckOk (cf : CF) (i x : Nat) : Prop := ∀ d, Pl d → cf i [d] = if isModelD d = true then ret .none else thr x
theorem pl_sz (ns : List Int) : Pl (szD ns) := by
  refine pl_iff.mpr ⟨canLay_all.mpr fun x hx => ?_, ?_⟩
  · obtain ⟨n, _, rfl⟩ := List.mem_map.mp hx
    rfl
  · show PyData.depthAll (ns.map .int) + 1 ≤ 64
    have : PyData.depthAll (ns.map PyData.int) ≤ 0 := depth_all.mpr fun x hx => by
      obtain ⟨n, _, rfl⟩ := List.mem_map.mp hx
      exact Nat.le_refl 0
    omega
theorem pl_md (ns : List Int) (cs : List (List (Int × Int))) : Pl (mdD ns cs) := by
  refine pl_iff.mpr ⟨canLay_all.mpr fun x hx => ?_, ?_⟩
  · simp only [List.mem_cons, List.not_mem_nil, or_false] at hx
    rcases hx with e | e
    · rw [e]; exact (pl_iff.mp (pl_sz ns)).1
    · rw [e]
      exact canLay_all.mpr fun y hy => by
        obtain ⟨c, _, rfl⟩ := List.mem_map.mp hy
        exact (pl_iff.mp (pl_cb c)).1
  · show PyData.depthAll [szD ns, .tuple (cs.map cbD)] + 1 ≤ 64
    have : PyData.depthAll [szD ns, .tuple (cs.map cbD)] ≤ 3 := depth_all.mpr fun x hx => by
      simp only [List.mem_cons, List.not_mem_nil, or_false] at hx
      rcases hx with e | e
      · rw [e]
        show PyData.depthAll (ns.map .int) + 1 ≤ 3
        have : PyData.depthAll (ns.map PyData.int) ≤ 0 := depth_all.mpr fun x hx => by
          obtain ⟨n, _, rfl⟩ := List.mem_map.mp hx
          exact Nat.le_refl 0
        omega
      · rw [e]
        show PyData.depthAll (cs.map cbD) + 1 ≤ 3
        have : PyData.depthAll (cs.map cbD) ≤ 2 := depth_all.mpr fun x hx => by
          obtain ⟨c, _, rfl⟩ := List.mem_map.mp hx
          exact depth_cb c
        omega
    omega
theorem ixD_md (ns : List Int) (cs : List (List (Int × Int))) : ixD (mdD ns cs) (.int 0) = some (szD ns) ∧ ixD (mdD ns cs) (.int 1) = some (.tuple (cs.map cbD)) := ⟨rfl, rfl⟩
def tsD (t : List Int) : D := szD t
def hasB (t : List Int) (c : List (Int × Int)) : Bool := c.all fun p => t.getD p.1.toNat 0 == p.2
theorem ixD_ts {t : List Int} {p : Int} (h0 : 0 ≤ p) (h1 : p < t.length) : ixD (tsD t) (.int p) = some (.int (t.getD p.toNat 0)) := ixD_sz h0 h1
abbrev HasOk (cf : CF) (i : Nat) : Prop := ∀ t c, (∀ p ∈ c, 0 ≤ p.1 ∧ p.1 < (t.length : Int)) → cf i [tsD t, cbD c] = ret (.bool (hasB t c))
theorem ev_has_all (cf : CF) (fu : Nat) (t : List Int) (c : List (Int × Int)) (h : ∀ p ∈ c, 0 ≤ p.1 ∧ p.1 < (t.length : Int)) : runF cf fu f_has_all [tsD t, cbD c] = ret (.bool (hasB t c)) := by
  rw [run_code cf fu (f := f_has_all) rfl (s0 := [some (.i (tsD t)), some (.i (cbD c)), none, none]) rfl]
  have c1 : evE cf (.comp (.op .eq (.ix (.pk 0) (.pk 2)) (.pk 3)) (.tup (.cons (.name 2) (.cons (.name 3) .nil))) (.seq (.var 1)) .yes [2, 3]) [some (.i (tsD t)), some (.i (cbD c)), none, none] = ret (.list (c.map fun p => .bool (t.getD p.1.toNat 0 == p.2))) := by
    refine ev_compM prI c (fun p => .bool (t.getD p.1.toNat 0 == p.2)) (by simp [cbD, seqD]) fun p hp => ?_
    obtain ⟨h0, h1⟩ := h p hp
    simp [turnC, wipeA, bindT, bindTs, prI, ixD_ts h0 h1, op_eq_int]
  simp [f_has_all, c1, biD, allD_map, hasB]
theorem ev_law_has (cf : CF) (fu : Nat) (t : List Int) (c : List (Int × Int)) (h : ∀ p ∈ c, 0 ≤ p.1 ∧ p.1 < (t.length : Int)) : runF cf fu f_law_has [tsD t, cbD c] = ret (.bool (hasB t c)) := by
  rw [run_code cf fu (f := f_law_has) rfl (s0 := [some (.i (tsD t)), some (.i (cbD c)), none, none]) rfl]
  have c1 : evE cf (.comp (.int 1) (.tup (.cons (.name 2) (.cons (.name 3) .nil))) (.seq (.var 1)) (.one (.cmp .ne (.ix (.pk 0) (.pk 2)) (.pk 3))) [2, 3]) [some (.i (tsD t)), some (.i (cbD c)), none, none] = ret (.list (c.filterMap fun p => if t.getD p.1.toNat 0 == p.2 then none else some (.int 1))) := by
    refine ev_comp prI c _ (by simp [cbD, seqD]) fun p hp => ?_
    obtain ⟨h0, h1⟩ := h p hp
    simp only [turnC, wipeA, bindT, bindTs, prI, List.map_cons, List.map_nil]
    simp [ixD_ts h0 h1, ne_int]
    by_cases e : t.getD p.1.toNat 0 = p.2
    · simp only [List.getD_eq_getElem?_getD] at e
      simp [e]
    · simp only [List.getD_eq_getElem?_getD] at e
      simp [e]
  have e2 : ∀ c : List (Int × Int), (c.filterMap fun p => if t.getD p.1.toNat 0 == p.2 then none else some (PyData.int 1)) = [] ↔ hasB t c = true := by
    intro c
    simp only [hasB, List.filterMap_eq_nil_iff, List.all_eq_true]
    refine forall_congr' fun p => forall_congr' fun _ => ?_
    cases (t.getD p.1.toNat 0 == p.2) <;> simp
  have e3 : ∀ l : List (Int × Int), ∀ x ∈ (l.filterMap fun p => if t.getD p.1.toNat 0 == p.2 then none else some (PyData.int 1)), x = .int 1 := by
    intro l x hx
    obtain ⟨p, _, e⟩ := List.mem_filterMap.mp hx
    split at e
    · cases e
    · cases e; rfl
  simp only [f_law_has, b_cons, s_ret, e_op, c1, e_lst, es_nil, m_bnd, m_assoc, List.length_nil, Nat.zero_le, if_true]
  generalize hL : (c.filterMap fun p => if t.getD p.1.toNat 0 == p.2 then none else some (PyData.int 1)) = L
  have hp : Pl (.list L) := by
    refine pl_iff.mpr ⟨canLay_all.mpr fun x hx => ?_, ?_⟩
    · rw [← hL] at hx; rw [e3 c x hx]; rfl
    · show PyData.depthAll L + 1 ≤ 64
      have : PyData.depthAll L ≤ 0 := depth_all.mpr fun x hx => by
        rw [← hL] at hx; rw [e3 c x hx]; exact Nat.le_refl 0
      omega
  have hn : Pl (.list []) := pl_iff.mpr ⟨rfl, by decide⟩
  rw [op_eq hp hn]
  have e4 : PyData.eqv (.list L) (.list []) = hasB t c := by
    have := e2 c
    rw [hL] at this
    cases L with
    | nil => rw [this.mp rfl]; simp [PyData.eqv, PyData.eqvAll]
    | cons x l =>
      cases q : hasB t c with
      | false => simp [PyData.eqv, PyData.eqvAll]
      | true => have := this.mpr q; cases this
  rw [e4]
  rfl
theorem len_tup (xs : List D) : lenD (.tuple xs) = some (.int xs.length) := rfl
/-- the places of a row -/
def inRng (xs : List D) (ns : List Int) : Bool := (xs.zip ns).all fun p => isIntD p.1 && decide (0 ≤ toI p.1) && decide (toI p.1 < p.2)
def isTestD (ns : List Int) (cs : List (List (Int × Int))) : D → Bool
  | .tuple xs => decide (xs.length = ns.length) && inRng xs ns && !(cs.any (hasB (xs.map toI)))
  | _ => false
theorem rng_shape : ∀ {xs : List D} {ns : List Int}, xs.length = ns.length → inRng xs ns = true → xs = (xs.map toI).map .int
  | [], _, _, _ => rfl
  | x :: xs, [], h, _ => by cases h
  | x :: xs, n :: ns, h, hr => by
    simp only [inRng, List.zip_cons_cons, List.all_cons, Bool.and_eq_true] at hr
    have e : x = .int (toI x) := by
      cases x with
      | int n => rfl
      | _ => cases hr.1.1.1
    rw [List.map_cons, List.map_cons, ← rng_shape (Nat.succ.inj h) (by unfold inRng; exact hr.2), ← e]
theorem zip_map_r {α β γ : Type} (f : β → γ) : ∀ (xs : List α) (ys : List β), xs.zip (ys.map f) = (xs.zip ys).map fun p => (p.1, f p.2)
  | [], _ => rfl
  | _ :: _, [] => rfl
  | x :: xs, y :: ys => by rw [List.map_cons, List.zip_cons_cons, List.zip_cons_cons, List.map_cons, zip_map_r f xs ys]
theorem ev_is_test_of {cf : CF} {ih ii : Nat} (fu : Nat) (hH : HasOk cf ih) (hI : IntOk cf ii) {ns : List Int} {cs : List (List (Int × Int))} (hc : ∀ c ∈ cs, ∀ p ∈ c, 0 ≤ p.1 ∧ p.1 < (ns.length : Int)) {d : D} (h : Pl d) : runF cf fu (f_is_test_of ih ii) [mdD ns cs, d] = ret (.bool (isTestD ns cs d)) := by
  rw [run_code cf fu (f := f_is_test_of ih ii) rfl (s0 := [some (.i (mdD ns cs)), some (.i d), none, none, none, none, none]) rfl]
  have eb : bindT (.tup (.cons (.name 2) (.cons (.name 3) .nil))) (mdD ns cs) [some (.i (mdD ns cs)), some (.i d), none, none, none, none, none] = some [some (.i (mdD ns cs)), some (.i d), some (.i (szD ns)), some (.i (.tuple (cs.map cbD))), none, none, none] := rfl
  simp only [f_is_test_of, b_cons, s_set, e_var, getI_z, m_lift, m_bnd, eb, at_nx, s_ife, t_or, t_not, t_val, e_isi, e_pk, getP_s, getP_zi, m_assoc]
  cases d with
  | dict kvs => exact (pl_dict h).elim
  | tuple xs =>
    have hx := pl_tuple h
    simp only [isiD, m_lift, m_bnd, truD, Bool.not_true, Bool.false_eq_true, if_false, t_cmp, e_bi, e_pk, getP_s, getP_zi, biD, len_sz, len_tup, ne_int, m_assoc]
    by_cases hl : xs.length = ns.length
    · have el : ((xs.length : Int) == (ns.length : Int)) = true := by simp [hl]
      have c1 : evE cf (.comp (.and (.call ii (.cons (.var 4) .nil)) (.chain .le .lt (.int 0) (.pk 4) (.pk 5))) (.tup (.cons (.name 4) (.cons (.name 5) .nil))) (.zip (.var 1) (.var 2)) .yes [4, 5]) [some (.i (mdD ns cs)), some (.i (.tuple xs)), some (.i (szD ns)), some (.i (.tuple (cs.map cbD))), none, none, none] = ret (.list ((xs.zip ns).map fun p => .bool (isIntD p.1 && decide (0 ≤ toI p.1) && decide (toI p.1 < p.2)))) := by
        refine ev_compM (fun p : D × Int => .tuple [p.1, .int p.2]) (xs.zip ns) _ ?_ fun p hp => ?_
        · have : (xs.zip (ns.map PyData.int)).map pairD = (xs.zip ns).map fun p => .tuple [p.1, .int p.2] := by
            rw [zip_map_r, List.map_map]
            rfl
          simp [szD, zipD, this]
        · have hpx := hx p.1 (List.of_mem_zip hp).1
          obtain ⟨x, n⟩ := p
          simp only at hpx ⊢
          simp only [turnC, wipeA, bindT, bindTs, List.map_cons, List.map_nil]
          cases x with
          | dict kvs => exact (pl_dict hpx).elim
          | int k =>
            simp [hI _ hpx, isIntD, toI]
            by_cases h0 : 0 ≤ k
            · simp [h0]; rfl
            · simp [h0]
          | _ => simp [hI _ hpx, isIntD, toI]
      simp only [el, Bool.not_true, Bool.false_eq_true, if_false, b_nil, at_nx, m_bnd, b_cons, s_ife, t_not, t_val, e_bi, c1, biD, allD_map, m_lift, truD, m_assoc]
      by_cases hr : inRng xs ns = true
      · have exs := rng_shape hl hr
        have hr' : ((xs.zip ns).all fun p => isIntD p.1 && decide (0 ≤ toI p.1) && decide (toI p.1 < p.2)) = true := hr
        have ets : PyData.tuple xs = tsD (xs.map toI) := by
          unfold tsD szD
          rw [← exs]
        have c2 : evE cf (.comp (.call ih (.cons (.var 1) (.cons (.var 6) .nil))) (.name 6) (.seq (.var 3)) .yes [6]) [some (.i (mdD ns cs)), some (.i (.tuple xs)), some (.i (szD ns)), some (.i (.tuple (cs.map cbD))), none, none, none] = ret (.list (cs.map fun c => .bool (hasB (xs.map toI) c))) := by
          refine ev_compM cbD cs _ (by simp [seqD]) fun c hcc => ?_
          have := hH (xs.map toI) c fun p hp => by rw [List.length_map, hl]; exact hc c hcc p hp
          rw [← ets] at this
          simp [turnC, wipeA, bindT, this]
        simp only [hr', Bool.not_true, Bool.false_eq_true, if_false, b_nil, at_nx, m_bnd, b_cons, s_ret, e_not, e_bi, c2, biD, anyD_map, m_lift, boolD_b, m_assoc]
        simp [isTestD, hl, hr]
      · have hr' : ((xs.zip ns).all fun p => isIntD p.1 && decide (0 ≤ toI p.1) && decide (toI p.1 < p.2)) = false := by
          have : inRng xs ns = false := by simpa using hr
          exact this
        simp [hr', isTestD, hr]
    · have el : ((xs.length : Int) == (ns.length : Int)) = false := by
        rw [beq_eq_false_iff_ne]
        omega
      simp [el, isTestD, hl]
  | _ => rfl
end Ev

set_option Elab.async false
set_option linter.all false
set_option maxRecDepth 100000
set_option autoImplicit false
namespace Ev
open PySem
def stepA (rows : List (List Int)) (n : Int) : List (List Int) := (List.range n.toNat).flatMap fun (v : Nat) => rows.map fun r => r ++ [(v : Int)]
def stepB (rows : List (List Int)) (n : Int) : List (List Int) := rows.flatMap fun r => (List.range n.toNat).map fun (v : Nat) => r ++ [(v : Int)]
def rowsA (ns : List Int) : List (List Int) := ns.foldl stepA [[]]
def rowsB (ns : List Int) : List (List Int) := ns.foldl stepB [[]]
theorem rowsA_snoc (ns : List Int) (n : Int) : rowsA (ns ++ [n]) = stepA (rowsA ns) n := by unfold rowsA; rw [List.foldl_append]; rfl
theorem rowsB_snoc (ns : List Int) (n : Int) : rowsB (ns ++ [n]) = stepB (rowsB ns) n := by unfold rowsB; rw [List.foldl_append]; rfl
theorem snoc_ind {α : Type} {P : List α → Prop} (h0 : P []) (h1 : ∀ l x, P l → P (l ++ [x])) (l : List α) : P l := by
  have key : ∀ n (l : List α), l.length = n → P l := by
    intro n
    induction n with
    | zero => intro l hl; rw [List.length_eq_zero_iff.mp hl]; exact h0
    | succ n ih =>
      intro l hl
      have hne : l ≠ [] := fun e => by rw [e] at hl; cases hl
      rw [← List.dropLast_concat_getLast hne]
      exact h1 _ _ (ih _ (by rw [List.length_dropLast]; omega))
  exact key _ l rfl
theorem flatMap_split {α β : Type} (f g : α → List β) : ∀ l : List α, (l.flatMap fun x => f x ++ g x).Perm (l.flatMap f ++ l.flatMap g)
  | [] => .refl _
  | x :: l => by
    rw [List.flatMap_cons, List.flatMap_cons, List.flatMap_cons, List.append_assoc, List.append_assoc]
    refine List.Perm.append_left _ ?_
    refine (List.Perm.append_left _ (flatMap_split f g l)).trans ?_
    rw [← List.append_assoc, ← List.append_assoc]
    exact List.Perm.append_right _ List.perm_append_comm
theorem step_perm (n : Int) : ∀ rows : List (List Int), (stepA rows n).Perm (stepB rows n)
  | [] => by
    unfold stepA stepB
    rw [List.flatMap_nil]
    have : ∀ l : List Nat, (l.flatMap fun (v : Nat) => ([] : List (List Int)).map fun r => r ++ [(v : Int)]) = [] := by
      intro l
      induction l with
      | nil => rfl
      | cons x l ih => rw [List.flatMap_cons, ih]; rfl
    rw [this]
  | r :: rows => by
    have ih := step_perm n rows
    unfold stepA stepB at ih ⊢
    rw [List.flatMap_cons]
    have e : (fun v : Nat => (r :: rows).map fun r => r ++ [(v : Int)]) = fun (v : Nat) => [r ++ [(v : Int)]] ++ rows.map fun r => r ++ [(v : Int)] := rfl
    rw [e]
    refine (flatMap_split _ _ _).trans ?_
    have e2 : ((List.range n.toNat).flatMap fun (v : Nat) => [r ++ [(v : Int)]]) = (List.range n.toNat).map fun (v : Nat) => r ++ [(v : Int)] := by
      rw [List.map_eq_flatMap]
    rw [e2]
    exact List.Perm.append_left _ ih
theorem stepB_perm {rows rows' : List (List Int)} (h : rows.Perm rows') (n : Int) : (stepB rows n).Perm (stepB rows' n) := h.flatMap_right _
theorem rows_perm (ns : List Int) : (rowsA ns).Perm (rowsB ns) := by
  induction ns using snoc_ind with
  | h0 => exact .refl _
  | h1 ns n ih =>
    rw [rowsA_snoc, rowsB_snoc]
    exact (step_perm n _).trans (stepB_perm ih n)
/-- a row of the sizes -/
def RowOk (ns t : List Int) : Prop := t.length = ns.length ∧ ∀ i (h : i < ns.length), 0 ≤ t.getD i 0 ∧ t.getD i 0 < ns[i]
theorem mem_rowsB (ns : List Int) : ∀ t, t ∈ rowsB ns ↔ RowOk ns t := by
  induction ns using snoc_ind with
  | h0 =>
    intro t
    unfold rowsB RowOk
    simp
  | h1 ns n ih =>
    intro t
    rw [rowsB_snoc]
    unfold stepB
    simp only [List.mem_flatMap, List.mem_map, List.mem_range]
    constructor
    · rintro ⟨r, hr, v, hv, rfl⟩
      obtain ⟨h1, h2⟩ := (ih r).mp hr
      refine ⟨by simp [h1], fun i hi => ?_⟩
      rw [List.length_append, List.length_singleton] at hi
      by_cases hin : i < ns.length
      · have := h2 i hin
        rw [List.getElem_append_left hin]
        rw [List.getD_eq_getElem?_getD, List.getElem?_append_left (by omega), ← List.getD_eq_getElem?_getD]
        exact this
      · have hi' : i = ns.length := by omega
        subst hi'
        rw [List.getElem_append_right (Nat.le_refl _), List.getD_eq_getElem?_getD, List.getElem?_append_right (by omega)]
        simp [h1]
        omega
    · rintro ⟨h1, h2⟩
      rw [List.length_append, List.length_singleton] at h1
      have hne : t ≠ [] := fun e => by rw [e] at h1; cases h1
      have hl := h2 ns.length (by simp)
      have et := List.dropLast_concat_getLast hne
      have eg : t.getD ns.length 0 = t.getLast hne := by
        rw [List.getLast_eq_getElem, List.getD_eq_getElem?_getD, List.getElem?_eq_getElem (by omega)]
        simp [h1]
      rw [List.getElem_append_right (Nat.le_refl _)] at hl
      simp only [Nat.sub_self, List.getElem_cons_zero] at hl
      refine ⟨t.dropLast, (ih _).mpr ⟨by rw [List.length_dropLast]; omega, fun i hi => ?_⟩, (t.getLast hne).toNat, by rw [← eg]; omega, ?_⟩
      · have := h2 i (by rw [List.length_append]; omega)
        rw [List.getElem_append_left hi] at this
        rw [List.getD_eq_getElem?_getD, List.getElem?_dropLast, if_pos (by omega), ← List.getD_eq_getElem?_getD]
        exact this
      · have : (((t.getLast hne).toNat : Nat) : Int) = t.getLast hne := by rw [← eg]; omega
        rw [this]
        exact et
theorem lex_append : ∀ {a b : List Int} (x y : List Int), a.length = b.length → a < b → a ++ x < b ++ y
  | [], [], x, y, _, h => absurd h (by simp)
  | [], _ :: _, _, _, h, _ => by cases h
  | _ :: _, [], _, _, h, _ => by cases h
  | a :: as, b :: bs, x, y, hl, h => by
    rw [List.cons_append, List.cons_append]
    rw [List.cons_lt_cons_iff] at h ⊢
    rcases h with h | ⟨e, h⟩
    · exact .inl h
    · exact .inr ⟨e, lex_append x y (Nat.succ.inj hl) h⟩
theorem lex_same : ∀ (a : List Int) {x y : Int}, x < y → a ++ [x] < a ++ [y]
  | [], x, y, h => by
    show [x] < [y]
    rw [List.cons_lt_cons_iff]
    exact .inl h
  | a :: as, x, y, h => by
    rw [List.cons_append, List.cons_append, List.cons_lt_cons_iff]
    exact .inr ⟨rfl, lex_same as h⟩
theorem rowsB_len (ns : List Int) : ∀ t ∈ rowsB ns, t.length = ns.length := fun t ht => ((mem_rowsB ns t).mp ht).1
theorem rowsB_asc (ns : List Int) : (rowsB ns).Pairwise (· < ·) := by
  induction ns using snoc_ind with
  | h0 => exact List.pairwise_singleton _ _
  | h1 ns n ih =>
    rw [rowsB_snoc]
    unfold stepB
    rw [List.pairwise_flatMap]
    refine ⟨fun r _ => ?_, ?_⟩
    · rw [List.pairwise_map]
      exact List.pairwise_lt_range.imp fun {a b} h => lex_same r (Int.ofNat_lt.mpr h)
    · refine List.Pairwise.imp_of_mem (fun {a b} ha hb h => ?_) ih
      intro x hx y hy
      obtain ⟨v, _, rfl⟩ := List.mem_map.mp hx
      obtain ⟨u, _, rfl⟩ := List.mem_map.mp hy
      exact lex_append _ _ (by rw [rowsB_len ns a ha, rowsB_len ns b hb]) h
theorem dataLt_ts (a b : List Int) : PySem.W.dataLt (tsD a) (tsD b) = decide (a < b) := by
  show PySem.W.dataLt (.tuple (a.map .int)) (.tuple (b.map .int)) = _
  rw [PySem.W.dataLt_tuple]
  exact PySem.W.dataLt_ints a b
/-- the valid tests, in their order -/
def vts (ns : List Int) (cs : List (List (Int × Int))) : List (List Int) := (rowsB ns).filter fun t => !(cs.any (hasB t))
theorem mem_vts {ns : List Int} {cs : List (List (Int × Int))} {t : List Int} : t ∈ vts ns cs ↔ RowOk ns t ∧ cs.any (hasB t) = false := by
  unfold vts
  rw [List.mem_filter, mem_rowsB, Bool.not_eq_true']
theorem vts_asc (ns : List Int) (cs : List (List (Int × Int))) : (vts ns cs).Pairwise (· < ·) := (rowsB_asc ns).filter _
theorem lt_irrefl_l (a : List Int) : ¬ a < a := fun h => by
  induction a with
  | nil => simp at h
  | cons x a ih =>
    rw [List.cons_lt_cons_iff] at h
    rcases h with h | ⟨_, h⟩
    · omega
    · exact ih h
theorem lex_anti : ∀ {a b : List Int}, ¬ a < b → ¬ b < a → a = b
  | [], [], _, _ => rfl
  | [], _ :: _, h, _ => absurd (List.nil_lt_cons _ _) h
  | _ :: _, [], _, h => absurd (List.nil_lt_cons _ _) h
  | x :: a, y :: b, h1, h2 => by
    rw [List.cons_lt_cons_iff] at h1 h2
    have e : x = y := by
      rcases Int.lt_trichotomy x y with q | q | q
      · exact absurd (.inl q) h1
      · exact q
      · exact absurd (.inl q) h2
    subst e
    rw [lex_anti (fun q => h1 (.inr ⟨rfl, q⟩)) fun q => h2 (.inr ⟨rfl, q⟩)]
/-- sorted of some rows, in whatever order -/
theorem sort_rows {l m : List (List Int)} (hp : l.Perm m) (hm : m.Pairwise (· < ·)) : sortD (l.map tsD) = m.map tsD := by
  have as : ∀ a b : List Int, a < b → b < a → False := fun a b h1 h2 => lt_irrefl_l a (List.lt_trans h1 h2)
  refine List.Perm.eq_of_pairwise (le := fun a c => leS a c = true) (fun a c h1 h2 q1 q2 => ?_) (sortD_sorted _) ?_ ((sortD_perm _).trans (hp.map tsD))
  · obtain ⟨x, _, rfl⟩ := List.mem_map.mp ((sortD_perm _).mem_iff.mp h1)
    obtain ⟨y, _, rfl⟩ := List.mem_map.mp h2
    rw [leS_eq, dataLt_ts, Bool.not_eq_true', decide_eq_false_iff_not] at q1 q2
    rw [lex_anti q2 q1]
  · rw [List.pairwise_map]
    refine hm.imp fun {a b} h => ?_
    rw [leS_eq, dataLt_ts, Bool.not_eq_true', decide_eq_false_iff_not]
    exact fun h' => as a b h h'
end Ev

set_option Elab.async false
set_option linter.all false
set_option maxRecDepth 100000
set_option autoImplicit false
namespace Ev
open PySem
@[simp] theorem intD_i (i : Int) : intD (.int i) = some i := rfl
/-- a loop of pure code -/
theorem forL_ex {f : D → Sl → M Fl} (J : Nat → Sl → Prop) : ∀ (ds : List D) (i : Nat) (s : Sl), J i s → (∀ (k : Nat) (d : D) (s : Sl), ds[k]? = some d → J (i + k) s → ∃ s', f d s = ret (.nx s') ∧ J (i + k + 1) s') → ∃ s', forL f ds s = ret (.nx s') ∧ J (i + ds.length) s'
  | [], i, s, h, _ => ⟨s, rfl, h⟩
  | d :: ds, i, s, h, step => by
    obtain ⟨s1, e1, h1⟩ := step 0 d s rfl h
    obtain ⟨s2, e2, h2⟩ := forL_ex J ds (i + 1) s1 h1 fun k d' s' hk hJ => by
      have := step (k + 1) d' s' hk (by rw [show i + (k + 1) = i + 1 + k by omega]; exact hJ)
      rw [show i + (k + 1) + 1 = i + 1 + k + 1 by omega] at this
      exact this
    refine ⟨s2, ?_, by rw [List.length_cons, show i + (ds.length + 1) = i + 1 + ds.length by omega]; exact h2⟩
    rw [forL, e1, m_bnd]
    exact e2
theorem pl_ts (t : List Int) : Pl (tsD t) := pl_sz t
theorem alike_ts (a b : List Int) : PySem.W.alike (tsD a) (tsD b) = true := by
  show PySem.W.alike (.tuple (a.map .int)) (.tuple (b.map .int)) = true
  rw [PySem.W.alike]
  exact PySem.W.alike_ints a b
theorem sort_ts {l : List (List Int)} (h : ∀ t ∈ l, t ≠ []) : sortedD (.list (l.map tsD)) = some (.list (sortD (l.map tsD))) := by
  show (if _ then _ else _) = _
  rw [if_pos]
  unfold sortOk
  simp only [Bool.and_eq_true, Bool.or_eq_true, List.all_eq_true]
  refine ⟨⟨fun x hx y hy => ?_, .inl fun x hx => ?_⟩, fun x hx => ?_⟩
  · obtain ⟨a, _, rfl⟩ := List.mem_map.mp hx
    obtain ⟨b, _, rfl⟩ := List.mem_map.mp hy
    exact alike_ts a b
  · obtain ⟨a, ha, rfl⟩ := List.mem_map.mp hx
    have := h a ha
    cases a with
    | nil => exact absurd rfl this
    | cons _ _ => rfl
  · obtain ⟨a, _, rfl⟩ := List.mem_map.mp hx
    exact pl_ts a
theorem add_ts (r : List Int) (v : Int) (h : r.length < 1000) : opD .add (tsD r) (.tuple [.int v]) = some (tsD (r ++ [v])) := by
  show (if (r.map PyData.int).length + 1 ≤ LIM then _ else _) = _
  rw [if_pos (by rw [List.length_map]; unfold LIM; omega)]
  unfold tsD szD
  rw [List.map_append]
  rfl
/-- the sizes are small enough that all rows can be made -/
def Small (ns : List Int) : Prop := ns.length < 100 ∧ (∀ n ∈ ns, 0 ≤ n ∧ n < 1000) ∧ ∀ k, (rowsA (ns.take k)).length ≤ 100000
theorem partA_len (R : List (List Int)) (k : Nat) : ((List.range k).flatMap fun (v : Nat) => R.map fun r => r ++ [(v : Int)]).length = k * R.length := by
  induction k with
  | zero => simp
  | succ k ih =>
    rw [List.range_succ, List.flatMap_append, List.length_append, ih]
    simp [Nat.succ_mul]
theorem rowsA_len (ns : List Int) : ∀ t ∈ rowsA ns, t.length = ns.length := fun t ht => rowsB_len ns t ((rows_perm ns).mem_iff.mp ht)
abbrev LTests (cf : CF) (i : Nat) : Prop := ∀ ns cs, ns ≠ [] → Small ns → (∀ c ∈ cs, ∀ p ∈ c, 0 ≤ p.1 ∧ p.1 < (ns.length : Int)) → cf i [mdD ns cs] = ret (.list ((vts ns cs).map tsD))
theorem eq_nil_list (L : List D) (h : ∀ x ∈ L, x = .int 1) : (opD .eq (.list L) (.list [])).bind boolD = some L.isEmpty := by
  have hp : Pl (.list L) := by
    refine pl_iff.mpr ⟨canLay_all.mpr fun x hx => by rw [h x hx]; rfl, ?_⟩
    show PyData.depthAll L + 1 ≤ 64
    have : PyData.depthAll L ≤ 0 := depth_all.mpr fun x hx => by rw [h x hx]; exact Nat.le_refl 0
    omega
  have hn : Pl (.list []) := pl_iff.mpr ⟨rfl, by decide⟩
  rw [op_eq hp hn, Option.bind_some, boolD_b]
  cases L <;> simp [PyData.eqv, PyData.eqvAll]
/-- [1 for x in l if p(x)] == [] -/
theorem ones_empty {α : Type} (p : α → Bool) (l : List α) : (l.filterMap fun x => if p x then some (PyData.int 1) else none).isEmpty = !(l.any p) := by
  induction l with
  | nil => rfl
  | cons x l ih =>
    rw [List.filterMap_cons, List.any_cons]
    cases h : p x with
    | true => simp
    | false => simp [ih]
theorem ones_one {α : Type} (p : α → Bool) (l : List α) : ∀ y ∈ (l.filterMap fun x => if p x then some (PyData.int 1) else none), y = .int 1 := fun y hy => by
  obtain ⟨x, _, e⟩ := List.mem_filterMap.mp hy
  split at e
  · cases e; rfl
  · cases e
theorem ev_law_tests {cf : CF} {ih : Nat} (fu : Nat) (hH : HasOk cf ih) {ns : List Int} {cs : List (List (Int × Int))} (hne : ns ≠ []) (hs : Small ns) (hc : ∀ c ∈ cs, ∀ p ∈ c, 0 ≤ p.1 ∧ p.1 < (ns.length : Int)) : runF cf fu (f_law_tests ih) [mdD ns cs] = ret (.list ((vts ns cs).map tsD)) := by
  rw [run_code cf fu (f := f_law_tests ih) rfl (s0 := [some (.i (mdD ns cs)), none, none, none, none, none, none]) rfl]
  simp [f_law_tests, bindT, (ixD_md ns cs).1, LIM]
  have esz : seqD (szD ns) = some (ns.map .int) := rfl
  rw [esz, m_lift, m_bnd]
  obtain ⟨s', e1, x2, x3, x4, es⟩ := forL_ex (f := turnF cf fu (.name 2) (.cons (.setM 3 (.lst .nil)) (.cons (.for_ (.name 4) (.range1 (.pk 2)) (.cons (.ext 3 (.comp (.op .add (.pk 5) (.tup (.cons (.var 4) .nil))) (.name 5) (.seq (.var 1)) .yes [5])) .nil)) (.frz 3 (.cons (.set (.name 1) (.var 3)) .nil)))))
    (fun k s => ∃ x2 x3 x4, s = [some (.i (mdD ns cs)), some (.i (.list ((rowsA (ns.take k)).map tsD))), x2, x3, x4, none, none]) (ns.map .int) 0 [some (.i (mdD ns cs)), some (.i (.list [.tuple []])), none, none, none, none, none] ⟨none, none, none, rfl⟩ (by
    rintro k d s hk ⟨x2, x3, x4, rfl⟩
    rw [Nat.zero_add]
    rw [List.getElem?_map] at hk
    obtain ⟨n, hn, ed⟩ := Option.map_eq_some_iff.mp hk
    subst ed
    have hkl : k < ns.length := (List.getElem?_eq_some_iff.mp hn).1
    obtain ⟨n0, n1⟩ := hs.2.1 n (List.mem_of_getElem? hn)
    have etk : ns.take (k + 1) = ns.take k ++ [n] := by rw [List.take_add_one, hn]; rfl
    have hR := hs.2.2 (k + 1)
    rw [etk, rowsA_snoc] at hR
    unfold stepA at hR
    rw [partA_len] at hR
    generalize hRd : rowsA (ns.take k) = R at hR
    have hrl : ∀ r ∈ R, r.length < 1000 := fun r hr => by
      rw [← hRd] at hr
      have h1 := rowsA_len _ r hr
      have h2 := List.length_take_le k ns
      have h3 := hs.1
      omega
    simp [turnF, bindT, LIM, mutS, range_ok n0 (by omega : n < 16777216)]
    obtain ⟨s2, e2, y4, es2⟩ := forL_ex (f := turnF cf fu (.name 4) (.cons (.ext 3 (.comp (.op .add (.pk 5) (.tup (.cons (.var 4) .nil))) (.name 5) (.seq (.var 1)) .yes [5])) .nil))
      (fun j s => ∃ y4, s = [some (.i (mdD ns cs)), some (.i (.list (R.map tsD))), some (.i (.int n)), some (.l (((List.range j).flatMap fun (v : Nat) => R.map fun r => r ++ [(v : Int)]).map tsD)), y4, none, none]) ((List.range n.toNat).map fun (k : Nat) => .int k) 0 [some (.i (mdD ns cs)), some (.i (.list (R.map tsD))), some (.i (.int n)), some (.l []), x4, none, none] ⟨x4, rfl⟩ (by
      rintro j d s hj ⟨y4, rfl⟩
      rw [Nat.zero_add]
      rw [List.getElem?_map] at hj
      obtain ⟨v, hv, ed⟩ := Option.map_eq_some_iff.mp hj
      subst ed
      have hvl : v = j ∧ j < n.toNat := by
        obtain ⟨h1, h2⟩ := List.getElem?_eq_some_iff.mp hv
        rw [List.length_range] at h1
        rw [List.getElem_range] at h2
        exact ⟨h2.symm, h1⟩
      obtain ⟨rfl, hjn⟩ := hvl
      have c1 : evE cf (.comp (.op .add (.pk 5) (.tup (.cons (.var 4) .nil))) (.name 5) (.seq (.var 1)) .yes [5]) [some (.i (mdD ns cs)), some (.i (.list (R.map tsD))), some (.i (.int n)), some (.l (((List.range v).flatMap fun (v : Nat) => R.map fun r => r ++ [(v : Int)]).map tsD)), some (.i (.int v)), none, none] = ret (.list (R.map fun r => tsD (r ++ [(v : Int)]))) := by
        refine ev_compM tsD R _ (by simp [seqD]) fun r hr => ?_
        simp [turnC, wipeA, bindT, LIM, add_ts r v (hrl r hr)]
      simp [turnF, bindT, c1, lstD]
      have hle : v * R.length + R.length ≤ 100000 := by
        have : (v + 1) * R.length ≤ n.toNat * R.length := Nat.mul_le_mul_right _ hjn
        rw [Nat.succ_mul] at this
        omega
      rw [if_pos (by
        have := partA_len R v
        rw [List.length_flatMap] at this
        simp only [List.length_map] at this
        unfold LIM
        first | omega | (rw [this]; omega)), m_bnd, at_nx, b_nil]
      refine ⟨_, rfl, some (.i (.int v)), ?_⟩
      rw [List.range_succ, List.flatMap_append, List.map_append]
      simp [Function.comp_def])
    rw [Nat.zero_add, List.length_map, List.length_range] at es2
    rw [e2, m_bnd]
    subst es2
    simp [frzS, bindT]
    have er : rowsA (ns.take (k + 1)) = (List.range n.toNat).flatMap fun (v : Nat) => R.map fun r => r ++ [(v : Int)] := by
      rw [etk, rowsA_snoc, hRd]
      rfl
    rw [er]
    exact ⟨_, rfl, _, _, _, rfl⟩)
  rw [Nat.zero_add, List.length_map, List.take_length] at es
  rw [e1, m_bnd]
  subst es
  have c2 : evE cf (.comp (.var 5) (.name 5) (.seq (.var 1)) (.one (.cmp .eq (.comp (.int 1) (.name 6) (.seq (.ix (.pk 0) (.int 1))) (.one (.val (.call ih (.cons (.var 5) (.cons (.var 6) .nil))))) [6]) (.lst .nil))) [5]) [some (.i (mdD ns cs)), some (.i (.list ((rowsA ns).map tsD))), x2, x3, x4, none, none] = ret (.list (((rowsA ns).filter fun t => !(cs.any (hasB t))).map tsD)) := by
    rw [ev_comp tsD (rowsA ns) (fun t => if !(cs.any (hasB t)) then some (tsD t) else none) (by simp [seqD]) fun t ht => ?_]
    · congr 2
      rw [← List.filterMap_eq_map, List.filterMap_filter]
      rfl
    · have c3 : evE cf (.comp (.int 1) (.name 6) (.seq (.ix (.pk 0) (.int 1))) (.one (.val (.call ih (.cons (.var 5) (.cons (.var 6) .nil))))) [6]) [some (.i (mdD ns cs)), some (.i (.list ((rowsA ns).map tsD))), x2, x3, x4, some (.i (tsD t)), none] = ret (.list (cs.filterMap fun c => if hasB t c then some (PyData.int 1) else none)) := by
        refine ev_comp cbD cs _ (by simp [(ixD_md ns cs).2, seqD]) fun c hcc => ?_
        have := hH t c fun p hp => by rw [rowsA_len ns t ht]; exact hc c hcc p hp
        simp [turnC, wipeA, bindT, this, truD]
        cases hasB t c <;> rfl
      simp [turnC, wipeA, bindT, c3, LIM, eq_nil_list _ (ones_one (hasB t) cs), ones_empty]
      split <;> rfl
  have hperm : ((rowsA ns).filter fun t => !(cs.any (hasB t))).Perm (vts ns cs) := (rows_perm ns).filter _
  simp [c2, biD]
  rw [sort_ts fun t ht e => ?_, sort_rows hperm (vts_asc ns cs)]
  · simp
  · have h1 := rowsA_len ns t (List.mem_filter.mp ht).1
    rw [e] at h1
    exact hne (List.length_eq_zero_iff.mp h1.symm)
end Ev

set_option Elab.async false
set_option linter.all false
set_option maxRecDepth 100000
set_option autoImplicit false
namespace Ev
open PySem
def odds : List D := [.none, .tuple [.str "x"], .int (-1), .int 9, .list []]
end Ev

set_option Elab.async false
set_option linter.all false
set_option maxRecDepth 100000
set_option autoImplicit false
namespace Ev
open PySem
theorem isTest_ts {ns : List Int} {cs : List (List (Int × Int))} {t : List Int} (h : RowOk ns t) : isTestD ns cs (tsD t) = !(cs.any (hasB t)) := by
  show (decide ((t.map PyData.int).length = ns.length) && inRng (t.map .int) ns && !(cs.any (hasB ((t.map PyData.int).map toI)))) = _
  have hr : ∀ {t ns : List Int}, t.length = ns.length → (∀ i (h : i < ns.length), 0 ≤ t.getD i 0 ∧ t.getD i 0 < ns[i]) → inRng (t.map .int) ns = true := by
    intro t
    induction t with
    | nil => intro ns _ _; rfl
    | cons a t ih =>
      intro ns hl h
      cases ns with
      | nil => cases hl
      | cons n ns =>
        have h0 := h 0 (by simp)
        have := ih (Nat.succ.inj hl) fun i hi => h (i + 1) (by simp; omega)
        show ((true && decide (0 ≤ a) && decide (a < n)) && ((t.map PyData.int).zip ns).all _) = true
        rw [show ((t.map PyData.int).zip ns).all (fun p => isIntD p.1 && decide (0 ≤ toI p.1) && decide (toI p.1 < p.2)) = true from this]
        have h0' : 0 ≤ a ∧ a < n := h0
        simp [h0'.1, h0'.2]
  rw [toI_map, hr h.1 h.2, List.length_map, h.1]
  simp
end Ev

set_option Elab.async false
set_option linter.all false
set_option maxRecDepth 100000
set_option autoImplicit false
namespace Ev
open PySem
theorem rowsA_le {ns : List Int} (h : ∀ n ∈ ns, n ≤ 4) : (rowsA ns).length ≤ 4 ^ ns.length := by
  induction ns using snoc_ind with
  | h0 => exact Nat.le_refl _
  | h1 ns n ih =>
    have ih := ih fun m hm => h m (List.mem_append_left _ hm)
    have hn : n.toNat ≤ 4 := by have := h n (by simp); omega
    rw [rowsA_snoc]
    unfold stepA
    rw [partA_len, List.length_append, List.length_singleton, Nat.pow_succ]
    calc n.toNat * (rowsA ns).length ≤ 4 * 4 ^ ns.length := Nat.mul_le_mul hn ih
      _ = 4 ^ ns.length * 4 := Nat.mul_comm _ _
theorem small_of {ns : List Int} (hl : ns.length ≤ 5) (h : ∀ n ∈ ns, 0 ≤ n ∧ n ≤ 4) : Small ns := by
  refine ⟨by omega, fun n hn => by have := h n hn; omega, fun k => ?_⟩
  have h1 := rowsA_le (ns := ns.take k) fun n hn => (h n (List.mem_of_mem_take hn)).2
  have h2 : (ns.take k).length ≤ 5 := by rw [List.length_take]; omega
  have h3 : 4 ^ (ns.take k).length ≤ 4 ^ 5 := Nat.pow_le_pow_right (by decide) h2
  have h4 : (4 : Nat) ^ 5 = 1024 := by decide
  omega
theorem depth_ts (t : List Int) : (tsD t).depth ≤ 1 := by
  show PyData.depthAll (t.map .int) + 1 ≤ 1
  have : PyData.depthAll (t.map PyData.int) ≤ 0 := depth_all.mpr fun x hx => by
    obtain ⟨n, _, rfl⟩ := List.mem_map.mp hx
    exact Nat.le_refl 0
  omega
theorem depth_md (ns : List Int) (cs : List (List (Int × Int))) : (mdD ns cs).depth ≤ 4 := by
  show PyData.depthAll [szD ns, .tuple (cs.map cbD)] + 1 ≤ 4
  have : PyData.depthAll [szD ns, .tuple (cs.map cbD)] ≤ 3 := depth_all.mpr fun x hx => by
    simp only [List.mem_cons, List.not_mem_nil, or_false] at hx
    rcases hx with e | e
    · rw [e]
      exact Nat.le_trans (depth_ts ns) (by decide)
    · rw [e]
      show PyData.depthAll (cs.map cbD) + 1 ≤ 3
      have : PyData.depthAll (cs.map cbD) ≤ 2 := depth_all.mpr fun x hx => by
        obtain ⟨c, _, rfl⟩ := List.mem_map.mp hx
        exact depth_cb c
      omega
  omega
end Ev

set_option Elab.async false
set_option linter.all false
set_option maxRecDepth 100000
set_option autoImplicit false
namespace Ev
open PySem
/-- the sizes are small enough for rows made in the other order -/
def SmallB (ns : List Int) : Prop := ns.length < 100 ∧ (∀ n ∈ ns, 0 ≤ n ∧ n < 1000) ∧ ∀ k, (rowsB (ns.take k)).length ≤ 100000
theorem Small.b {ns : List Int} (h : Small ns) : SmallB ns := ⟨h.1, h.2.1, fun k => by rw [← (rows_perm (ns.take k)).length_eq]; exact h.2.2 k⟩
theorem ev_check_combination {cf : CF} {ic x : Nat} (fu : Nat) (hC : CombOk cf ic) {ns : List Int} {cs : List (List (Int × Int))} {d : D} (h : Pl d) : runF cf fu (f_check_combination ic x) [mdD ns cs, d] = if isCombD ns d = true then ret .none else thr x := by
  rw [run_code cf fu (f := f_check_combination ic x) rfl (s0 := [some (.i (mdD ns cs)), some (.i d)]) rfl]
  simp [f_check_combination, (ixD_md ns cs).1, hC ns d h, truD]
  cases isCombD ns d <;> rfl
end Ev

set_option Elab.async false
set_option linter.all false
set_option maxRecDepth 100000
set_option autoImplicit false
namespace Ev
open PySem
@[simp] theorem truD_b (b : Bool) : truD (.bool b) = some b := rfl
section
variable {α β : Type} {I : W → Prop}
theorem Ho.nx {s : Sl} {J : Sl → Prop} (h : J s) : Ho I (Ev.ret (Fl.nx s)) fun r => ∃ s', (r = .nx s' ∨ r = .ct s') ∧ J s' := Ho.ret ⟨s, .inl rfl, h⟩
theorem Ho.for {f : D → Sl → M Fl} {ds : List D} {s : Sl} (J : Nat → Sl → Prop) (h0 : J 0 s) (hs : ∀ (k : Nat) (d : D) (s : Sl), ds[k]? = some d → J k s → Ho I (f d s) fun r => ∃ s', (r = .nx s' ∨ r = .ct s') ∧ J (k + 1) s') : Ho I (forL f ds s) fun r => ∃ s', r = .nx s' ∧ J ds.length s' := by
  have := ho_for (I := I) (f := f) J ds 0 s h0 fun k d s hk hJ => by
    rw [Nat.zero_add] at hJ
    refine (hs k d s hk hJ).imp fun r ⟨s', e, j⟩ => ?_
    rw [Nat.zero_add]
    rcases e with e | e
    · exact .inl ⟨s', e, j⟩
    · exact .inr ⟨s', e, j⟩
  rw [Nat.zero_add] at this
  exact this
end
theorem ho_start {x : M D} {tl : W} (H : Ho Tn x fun d => d = .bool true) : ∃ w, x (.town 0 [] :: tl) = .ok (.bool true) w := by
  obtain ⟨a, w, e, _, ea⟩ := H _ ⟨0, [], tl, rfl, List.nodup_nil, fun p hp => nomatch hp⟩
  subst ea
  exact ⟨w, e⟩
/-- a law's beginning -/
theorem ho_begin {β : Type} {x : M D} {f : D → M D} {tl : W} (hx : x (.non :: tl) = .ok (obD 0) (.town 0 [] :: tl)) (H : Ho Tn (f (obD 0)) fun d => d = .bool true) : ∃ w, bnd x f (.non :: tl) = .ok (.bool true) w := by
  rw [bnd_ok hx]
  exact ho_start H
theorem pl_none : Pl .none := pl_iff.mpr ⟨rfl, (show 0 ≤ 64 by decide)⟩
theorem pl_bool (b : Bool) : Pl (.bool b) := pl_iff.mpr ⟨rfl, (show 0 ≤ 64 by decide)⟩
theorem pl_tup {xs : List D} {n : Nat} (hn : n < 64) (h : ∀ x ∈ xs, Pl x ∧ x.depth ≤ n) : Pl (.tuple xs) := by
  refine pl_iff.mpr ⟨canLay_all.mpr fun x hx => (pl_iff.mp (h x hx).1).1, ?_⟩
  show PyData.depthAll xs + 1 ≤ 64
  have : PyData.depthAll xs ≤ n := depth_all.mpr fun x hx => (h x hx).2
  omega
theorem pl_lst {xs : List D} {n : Nat} (hn : n < 64) (h : ∀ x ∈ xs, Pl x ∧ x.depth ≤ n) : Pl (.list xs) := by
  refine pl_iff.mpr ⟨canLay_all.mpr fun x hx => (pl_iff.mp (h x hx).1).1, ?_⟩
  show PyData.depthAll xs + 1 ≤ 64
  have : PyData.depthAll xs ≤ n := depth_all.mpr fun x hx => (h x hx).2
  omega
/-- a != a -/
theorem ne_self {x : D} (h : Pl x) (hr : PyData.eqv x x = true) : (opD .ne x x).bind boolD = some false := by
  rw [op_ne h h, hr]
  rfl
mutual
/-- equal to itself (data without dicts) -/
theorem eqv_self : ∀ d : D, d.canLay0 = true → PyData.eqv d d = true
  | .none, _ => by simp [PyData.eqv]
  | .bool b, _ => by simp [PyData.eqv]
  | .int i, _ => by simp [PyData.eqv]
  | .str x, _ => by simp [PyData.eqv]
  | .list xs, h => by
    rw [PyData.eqv]
    exact eqvAll_self xs (by simpa [PyData.canLay0] using h)
  | .tuple xs, h => by
    rw [PyData.eqv]
    exact eqvAll_self xs (by simpa [PyData.canLay0] using h)
  | .dict kvs, h => by simp [PyData.canLay0] at h
theorem eqvAll_self : ∀ xs : List D, PyData.canLayAll0 xs = true → PyData.eqvAll xs xs = true
  | [], _ => by simp [PyData.eqvAll]
  | x :: xs, h => by
    rw [PyData.canLayAll0, Bool.and_eq_true] at h
    rw [PyData.eqvAll, eqv_self x h.1, eqvAll_self xs h.2]
    rfl
end
theorem ne_same {x : D} (h : Pl x) : (opD .ne x x).bind boolD = some false := ne_self h (eqv_self x (pl_iff.mp h).1)
theorem eq_same {x : D} (h : Pl x) : (opD .eq x x).bind boolD = some true := by
  rw [op_eq h h, eqv_self x (pl_iff.mp h).1]
  rfl
end Ev

set_option Elab.async false
set_option linter.all false
set_option maxRecDepth 100000
set_option autoImplicit false
namespace Ev
open PySem
/-- lo, .. hi - 1 -/
def rngI (lo hi : Int) : List Int := (List.range (hi - lo).toNat).map fun (k : Nat) => lo + k
/-- where the next index may begin -/
def nxt (r : List Int) : Int := match r.getLast? with
  | some x => x + 1
  | none => 0
def subS (m : Int) (rows : List (List Int)) : List (List Int) := rows.flatMap fun r => (rngI (nxt r) m).map fun v => r ++ [v]
def subs (m : Int) : Nat → List (List Int)
  | 0 => [[]]
  | k + 1 => subS m (subs m k)
def proj (t ps : List Int) : List (Int × Int) := ps.map fun i => (i, t.getD i.toNat 0)
def prjs (t : List Int) (k : Nat) : List (List (Int × Int)) := (subs t.length k).map (proj t)
def insU (acc : List (List (Int × Int))) (c : List (Int × Int)) : List (List (Int × Int)) := if c ∈ acc then acc else acc ++ [c]
end Ev

set_option Elab.async false
set_option linter.all false
set_option maxRecDepth 100000
set_option autoImplicit false
namespace Ev
open PySem
/-- the keys of possible_of, in their order -/
def prjA (ts : List (List Int)) (k : Nat) : List (List (Int × Int)) := ts.flatMap fun t => prjs t k
def posK (ts : List (List Int)) (k : Nat) : List (List (Int × Int)) := (prjA ts k).foldl insU []
structure Sml (ns : List Int) : Prop where
  b : SmallB ns
  len : ns.length ≤ 5
  rows : (rowsB ns).length ≤ 1024
abbrev InR (ns : List Int) (cs : List (List (Int × Int))) : Prop := ∀ c ∈ cs, ∀ p ∈ c, 0 ≤ p.1 ∧ p.1 < (ns.length : Int)
theorem vts_rows {ns : List Int} {cs : List (List (Int × Int))} (h : Sml ns) : (vts ns cs).length ≤ 1024 ∧ ∀ t ∈ vts ns cs, t.length = ns.length := by
  refine ⟨Nat.le_trans (List.length_filter_le ..) h.rows, fun t ht => ?_⟩
  exact (mem_vts.mp ht).1.1
def nxtC (c : List (Int × Int)) : Int := match c.getLast? with
  | some p => p.1 + 1
  | none => 0
theorem nxtC_snoc (c : List (Int × Int)) (p : Int × Int) : nxtC (c ++ [p]) = p.1 + 1 := by simp [nxtC]
end Ev

set_option Elab.async false
set_option linter.all false
set_option maxRecDepth 100000
set_option autoImplicit false
namespace Ev
open PySem
section
variable (ns : List Int) (pk : Nat → List (List (Int × Int))) (ex : List (Int × Int) → List (List (Int × Int)))
end
end Ev

set_option Elab.async false
set_option linter.all false
set_option maxRecDepth 100000
set_option autoImplicit false
namespace Ev
open PySem
structure Cbn (n : Nat) (c : List (Int × Int)) : Prop where
  asc : (c.map (·.1)).Pairwise (· < ·)
  rng : ∀ p ∈ c, 0 ≤ p.1 ∧ p.1 < (n : Int)
theorem Cbn.sub {n : Nat} {c d : List (Int × Int)} (h : Cbn n c) (s : d.Sublist c) : Cbn n d :=
  ⟨h.asc.sublist (s.map _), fun p hp => h.rng p (s.subset hp)⟩
theorem Cbn.snoc {n : Nat} {c : List (Int × Int)} {p : Int × Int} : Cbn n (c ++ [p]) ↔ Cbn n c ∧ nxtC c ≤ p.1 ∧ 0 ≤ p.1 ∧ p.1 < (n : Int) := by
  constructor
  · intro h
    have hp := h.rng p (by simp)
    refine ⟨h.sub (List.sublist_append_left ..), ?_, hp⟩
    have ha := h.asc
    rw [List.map_append, List.pairwise_append] at ha
    rcases List.eq_nil_or_concat c with e | ⟨l, y, e⟩
    · subst e
      simpa [nxtC] using hp.1
    · subst e
      rw [List.concat_eq_append] at ha ⊢
      rw [nxtC_snoc]
      have := ha.2.2 y.1 (by simp) p.1 (by simp)
      omega
  · rintro ⟨h, h1, h2, h3⟩
    refine ⟨?_, fun q hq => ?_⟩
    · rw [List.map_append, List.pairwise_append]
      refine ⟨h.asc, by simp, fun a ha b hb => ?_⟩
      rw [List.map_singleton, List.mem_singleton] at hb
      rw [hb]
      rcases List.eq_nil_or_concat c with e | ⟨l, y, e⟩
      · subst e; simp at ha
      · subst e
        rw [List.concat_eq_append] at ha h1 h
        rw [nxtC_snoc] at h1
        rw [List.map_append, List.mem_append] at ha
        rcases ha with ha | ha
        · have h5 := h.asc
          rw [List.map_append, List.pairwise_append] at h5
          have := h5.2.2 a ha y.1 (by simp)
          omega
        · rw [List.map_singleton, List.mem_singleton] at ha
          omega
    · rcases List.mem_append.mp hq with hq | hq
      · exact h.rng q hq
      · rw [List.mem_singleton] at hq
        rw [hq]
        exact ⟨h2, h3⟩
end Ev

set_option Elab.async false
set_option linter.all false
set_option maxRecDepth 100000
set_option autoImplicit false
namespace Ev
open PySem
end Ev

set_option Elab.async false
set_option linter.all false
set_option maxRecDepth 100000
set_option autoImplicit false
namespace Ev
open PySem
theorem pl_lnil : Pl (.list []) := pl_lst (n := 0) (by decide) fun x hx => by cases hx
end Ev

set_option Elab.async false
set_option linter.all false
set_option maxRecDepth 100000
set_option autoImplicit false
namespace Ev
open PySem
end Ev

set_option Elab.async false
set_option linter.all false
set_option maxRecDepth 100000
set_option autoImplicit false
namespace Ev
open PySem
end Ev

set_option Elab.async false
set_option linter.all false
set_option maxRecDepth 100000
set_option autoImplicit false
namespace Ev
open PySem
end Ev

set_option Elab.async false
set_option linter.all false
set_option maxRecDepth 100000
set_option autoImplicit false
namespace Ev
open PySem
end Ev

set_option Elab.async false
set_option linter.all false
set_option maxRecDepth 100000
set_option autoImplicit false
namespace Ev
open PySem
end Ev

set_option Elab.async false
set_option linter.all false
set_option maxRecDepth 100000
set_option autoImplicit false
namespace Ev
open PySem
end Ev

set_option Elab.async false
set_option linter.all false
set_option maxRecDepth 100000
set_option autoImplicit false
namespace Ev
open PySem
theorem sml_of {ns : List Int} (hl : ns.length ≤ 5) (h : ∀ n ∈ ns, 0 ≤ n ∧ n ≤ 4) : Sml ns := by
  refine ⟨(small_of hl h).b, hl, ?_⟩
  have h1 := rowsA_le (ns := ns) fun n hn => (h n hn).2
  have h3 : 4 ^ ns.length ≤ 4 ^ 5 := Nat.pow_le_pow_right (by decide) hl
  have h4 : (4 : Nat) ^ 5 = 1024 := by decide
  rw [← (rows_perm ns).length_eq]
  omega
end Ev

set_option Elab.async false
set_option linter.all false
set_option maxRecDepth 100000
set_option autoImplicit false
namespace Ev
open PySem
end Ev

set_option Elab.async false
set_option linter.all false
set_option maxRecDepth 100000
set_option autoImplicit false
namespace Ev
open PySem
theorem res0 : resM resL (thr 0) = ret (.tuple [.str "model"]) := res_thr rfl
end Ev

set_option Elab.async false
set_option linter.all false
set_option maxRecDepth 100000
set_option autoImplicit false
namespace Ev
open PySem
end Ev

set_option Elab.async false
set_option linter.all false
set_option maxRecDepth 100000
set_option autoImplicit false
namespace Ev
open PySem
abbrev Cb := List (Int × Int)
def insC (x : Cb) : List Cb → List Cb
  | [] => [x]
  | y :: ys => if PySem.W.dataLt (cbD y) (cbD x) then y :: insC x ys else x :: y :: ys
def sortC : List Cb → List Cb
  | [] => []
  | x :: xs => insC x (sortC xs)
/-- the targets of tests, ascending -/
def TG (ts : List (List Int)) (k : Nat) : List Cb := sortC (posK ts k)
abbrev TestOk (cf : CF) (i : Nat) : Prop := ∀ (ms : List Int) (cs : List Cb) (d : D), (∀ c ∈ cs, CbOk ms c) → Pl d → cf i [mdD ms cs, d] = ret (.bool (isTestD ms cs d))
end Ev

set_option Elab.async false
set_option linter.all false
set_option maxRecDepth 100000
set_option autoImplicit false
namespace Ev
open PySem
end Ev

set_option Elab.async false
set_option linter.all false
set_option maxRecDepth 100000
set_option autoImplicit false
namespace Ev
open PySem
/-- a model within the bounds -/
structure MdC (ns : List Int) (cs : List Cb) : Prop where
  mod : isModelD (mdD ns cs) = true
  cmb : ∀ c ∈ cs, CbOk ns c
  sml : Sml ns
  l2 : 2 ≤ ns.length
  siz : ∀ n ∈ ns, 2 ≤ n ∧ n ≤ 4
theorem MdC.rng {ns : List Int} {cs : List Cb} (h : MdC ns cs) : InR ns cs := fun c hc p hp => ⟨((h.cmb c hc).rng p hp).1, ((h.cmb c hc).rng p hp).2.1⟩
theorem MdC.len {ns : List Int} {cs : List Cb} (h : MdC ns cs) : ns.length ≤ 5 := h.sml.len
theorem mdC_of {b v r : Nat} {ns : List Int} {cs : List Cb} (h : MdOk b v r ns cs) (hb : b ≤ 5) (hv : v ≤ 4) (hr : r ≤ 8) : MdC ns cs :=
  ⟨isModel_of h hb hv hr, h.cmb, sml_of (by have := h.len; omega) (fun n hn => by have := h.siz n hn; omega), h.len.1, fun n hn => by have := h.siz n hn; omega⟩
/-- a suite -/
def suD (ts : List (List Int)) : D := .tuple (ts.map tsD)
structure SuC (ns : List Int) (cs : List Cb) (ts : List (List Int)) : Prop where
  mem : ∀ t ∈ ts, t ∈ vts ns cs
  len : ts.length ≤ 40
theorem SuC.row {ns : List Int} {cs : List Cb} {ts : List (List Int)} (h : SuC ns cs ts) : ∀ t ∈ ts, t.length = ns.length := fun t ht => (mem_vts.mp (h.mem t ht)).1.1
theorem pl_tests (ts : List (List Int)) : Pl (.tuple (ts.map tsD)) ∧ Pl (.list (ts.map tsD)) := by
  have : ∀ x ∈ ts.map tsD, Pl x ∧ x.depth ≤ 1 := fun x hx => by
    obtain ⟨t, _, rfl⟩ := List.mem_map.mp hx
    exact ⟨pl_ts t, depth_ts t⟩
  exact ⟨pl_tup (by decide) this, pl_lst (by decide) this⟩
theorem test_vts {ns : List Int} {cs : List Cb} {t : List Int} (h : t ∈ vts ns cs) : isTestD ns cs (tsD t) = true := by
  rw [isTest_ts (mem_vts.mp h).1, (mem_vts.mp h).2]
  rfl
theorem SuC.five {ns : List Int} {cs : List Cb} {ts : List (List Int)} (hm : MdC ns cs) (h : SuC ns cs ts) : ∀ t ∈ ts, t.length ≤ 5 := fun t ht => by rw [h.row t ht]; exact hm.len
end Ev

set_option Elab.async false
set_option linter.all false
set_option maxRecDepth 100000
set_option autoImplicit false
namespace Ev
open PySem
def maxL : List Int → Int
  | [] => 0
  | x :: r => maxI x r
end Ev

set_option Elab.async false
set_option linter.all false
set_option maxRecDepth 100000
set_option autoImplicit false
namespace Ev
open PySem
end Ev

set_option Elab.async false
set_option linter.all false
set_option maxRecDepth 100000
set_option autoImplicit false
namespace Ev
open PySem
theorem ne_lnilT (ts : List (List Int)) : (opD .ne (.list (ts.map tsD)) (.list [])).bind boolD = some (!ts.isEmpty) := by
  rw [op_ne (pl_tests ts).2 pl_lnil]
  cases ts <;> simp [PyData.eqv, PyData.eqvAll, boolD]
theorem ix_lst {ts : List (List Int)} {r : Int} (r0 : 0 ≤ r) (r1 : r < ts.length) : ∃ t, t ∈ ts ∧ ts[r.toNat]? = some t ∧ ixD (.list (ts.map tsD)) (.int r) = some (tsD t) := by
  obtain ⟨t, ht⟩ : ∃ t, ts[r.toNat]? = some t := ⟨_, List.getElem?_eq_getElem (by omega)⟩
  refine ⟨t, List.mem_of_getElem? ht, ht, ?_⟩
  show (ixI (ts.map tsD).length r).bind _ = _
  unfold ixI
  rw [if_pos r0, List.length_map, if_pos r1, Option.bind_some, List.getElem?_map, ht]
  rfl
theorem ix_tup {ts : List (List Int)} {r : Int} (r0 : 0 ≤ r) (r1 : r < ts.length) : ∃ t, t ∈ ts ∧ ts[r.toNat]? = some t ∧ ixD (suD ts) (.int r) = some (tsD t) := by
  obtain ⟨t, ht⟩ : ∃ t, ts[r.toNat]? = some t := ⟨_, List.getElem?_eq_getElem (by omega)⟩
  refine ⟨t, List.mem_of_getElem? ht, ht, ?_⟩
  show (ixI (ts.map tsD).length r).bind _ = _
  unfold ixI
  rw [if_pos r0, List.length_map, if_pos r1, Option.bind_some, List.getElem?_map, ht]
  rfl
end Ev

set_option Elab.async false
set_option linter.all false
set_option maxRecDepth 100000
set_option autoImplicit false
namespace Ev
open PySem
@[simp] theorem fnI_fn (n : Nat) : fnI (fnD n) = some n := by
  show (if 0 ≤ (n : Int) then some (n : Int).toNat else none) = _
  rw [if_pos (by omega)]
  rfl
end Ev

set_option Elab.async false
set_option linter.all false
set_option maxRecDepth 100000
set_option autoImplicit false
namespace Ev
open PySem
end Ev

set_option Elab.async false
set_option linter.all false
set_option maxRecDepth 100000
set_option autoImplicit false
namespace Ev
open PySem
end Ev

set_option Elab.async false
set_option linter.all false
set_option maxRecDepth 100000
set_option autoImplicit false
namespace Ev
open PySem
end Ev

set_option Elab.async false
set_option linter.all false
set_option maxRecDepth 100000
set_option autoImplicit false
namespace Ev
open PySem
end Ev

set_option Elab.async false
set_option linter.all false
set_option maxRecDepth 100000
set_option autoImplicit false
namespace Ev
open PySem
/-- the first test with the greatest gain -/
def Best (g : List Int → Nat) (ts : List (List Int)) (t : List Int) : Prop := ∃ pre post, ts = pre ++ t :: post ∧ (∀ x ∈ pre, g x < g t) ∧ ∀ x ∈ post, g x ≤ g t
theorem Best.uniq {g : List Int → Nat} {ts : List (List Int)} {t u : List Int} (h1 : Best g ts t) (h2 : Best g ts u) : t = u := by
  obtain ⟨p, q, e, a1, a2⟩ := h1
  obtain ⟨p', q', e', b1, b2⟩ := h2
  rw [e] at e'
  rcases List.append_eq_append_iff.mp e' with ⟨w, h3, h4⟩ | ⟨w, h3, h4⟩
  · cases w with
    | nil =>
      rw [List.nil_append] at h4
      injection h4
    | cons x w =>
      rw [List.cons_append] at h4
      injection h4 with e1 e2
      subst e1
      have c1 := b1 t (by rw [h3]; simp)
      have c2 := a2 u (by rw [e2]; simp)
      omega
  · cases w with
    | nil =>
      rw [List.nil_append] at h4
      injection h4 with e1 _
      exact e1.symm
    | cons x w =>
      rw [List.cons_append] at h4
      injection h4 with e1 e2
      subst e1
      have c1 := a1 u (by rw [h3]; simp)
      have c2 := b2 t (by rw [e2]; simp)
      omega
end Ev

set_option Elab.async false
set_option linter.all false
set_option maxRecDepth 100000
set_option autoImplicit false
namespace Ev
open PySem
end Ev

set_option Elab.async false
set_option linter.all false
set_option maxRecDepth 100000
set_option autoImplicit false
namespace Ev
open PySem
end Ev

set_option Elab.async false
set_option linter.all false
set_option maxRecDepth 100000
set_option autoImplicit false
namespace Ev
open PySem
end Ev

set_option Elab.async false
set_option linter.all false
set_option maxRecDepth 100000
set_option autoImplicit false
namespace Ev
open PySem
end Ev

set_option Elab.async false
set_option linter.all false
set_option maxRecDepth 100000
set_option autoImplicit false
namespace Ev
open PySem
end Ev

set_option Elab.async false
set_option linter.all false
set_option maxRecDepth 100000
set_option autoImplicit false
namespace Ev
open PySem
def hyD (h : List Cb) : D := .tuple (h.map cbD)
end Ev

set_option Elab.async false
set_option linter.all false
set_option maxRecDepth 100000
set_option autoImplicit false
namespace Ev
open PySem
def failB (h : List Cb) (t : List Int) : Bool := h.any fun c => hasB t c
abbrev DoesFail (cf : CF) (i : Nat) : Prop := ∀ (h : List Cb) (t : List Int), (∀ c ∈ h, ∀ p ∈ c, 0 ≤ p.1 ∧ p.1 < (t.length : Int)) → cf i [hyD h, tsD t] = ret (.bool (failB h t))
abbrev Rs := List (List Int × Bool)
def rsD (r : List Int × Bool) : D := .tuple [tsD r.1, .bool r.2]
def ressD (rs : Rs) : D := .tuple (rs.map rsD)
def isBoolD : D → Bool
  | .bool _ => true
  | _ => false
def isResD (ns : List Int) (cs : List Cb) : D → Bool
  | .tuple [a, b] => isTestD ns cs a && isBoolD b
  | _ => false
def isRessD (ns : List Int) (cs : List Cb) : D → Bool
  | .tuple xs => decide (xs.length ≤ 20) && xs.all (isResD ns cs)
  | _ => false
theorem ev_is_result {cf : CF} {it : Nat} (fu : Nat) (hT : TestOk cf it) {ns : List Int} {cs : List Cb} {d : D} (hc : ∀ c ∈ cs, CbOk ns c) (h : Pl d) : runF cf fu (f_is_result it) [mdD ns cs, d] = ret (.bool (isResD ns cs d)) := by
  rw [run_code cf fu (f := f_is_result it) rfl (s0 := [some (.i (mdD ns cs)), some (.i d)]) rfl]
  have hT' := fun d hd => hT ns cs d hc hd
  generalize mdD ns cs = md at *
  cases d with
  | dict kvs => exact (pl_dict h).elim
  | tuple xs =>
    have hx := pl_tuple h
    have hln : biD .len (.tuple xs) = some (.int xs.length) := rfl
    match xs, hx with
    | [a, b], hx =>
      have h1 := hT' a (hx a List.mem_cons_self)
      have i0 : ixD (.tuple [a, b]) (.int 0) = some a := rfl
      have i1 : ixD (.tuple [a, b]) (.int 1) = some b := rfl
      have hb : isiD .bool b = some (isBoolD b) := by
        have := hx b (List.mem_cons_of_mem _ List.mem_cons_self)
        cases b with
        | dict kvs => exact (pl_dict this).elim
        | _ => rfl
      have ht : isiD .tuple (.tuple [a, b]) = some true := rfl
      have hn : (opD .ne (.int (([a, b] : List D).length : Int)) (.int 2)).bind boolD = some false := rfl
      rw [show isResD ns cs (.tuple [a, b]) = (isTestD ns cs a && isBoolD b) from rfl]
      generalize PyData.tuple [a, b] = ab at *
      simp -implicitDefEqProofs [f_is_result, ht, truD, hln, i0, i1, h1, hb, ne_int]
      cases isTestD ns cs a <;> simp -implicitDefEqProofs [truD, hb, i1]
    | [], _ => simp -implicitDefEqProofs [f_is_result, isiD, truD, hln, isResD, ne_int]
    | [a], _ => simp -implicitDefEqProofs [f_is_result, isiD, truD, hln, isResD, ne_int]
    | a :: b :: c :: r, _ =>
      have hn : (opD .ne (.int ((a :: b :: c :: r).length : Int)) (.int 2)).bind boolD = some true := by
        have e : (((a :: b :: c :: r).length : Int) == 2) = false := by
          rw [beq_eq_false_iff_ne]
          simp only [List.length_cons]
          omega
        rw [ne_int, e]
        rfl
      have hln2 : biD .len (.tuple (a :: b :: c :: r)) = some (.int ((a :: b :: c :: r).length : Int)) := rfl
      have ht : isiD .tuple (.tuple (a :: b :: c :: r)) = some true := rfl
      rw [show isResD ns cs (.tuple (a :: b :: c :: r)) = false from rfl]
      generalize (a :: b :: c :: r).length = ll at *
      generalize PyData.tuple (a :: b :: c :: r) = ab at *
      simp -implicitDefEqProofs [f_is_result, ht, truD, hln2, hn]
  | _ => simp -implicitDefEqProofs [f_is_result, isiD, truD, isResD]
end Ev

set_option Elab.async false
set_option linter.all false
set_option maxRecDepth 100000
set_option autoImplicit false
namespace Ev
open PySem
abbrev ResOk (cf : CF) (i : Nat) : Prop := ∀ (ns : List Int) (cs : List Cb) (d : D), (∀ c ∈ cs, CbOk ns c) → Pl d → cf i [mdD ns cs, d] = ret (.bool (isResD ns cs d))
abbrev CheckRes (cf : CF) (i x : Nat) : Prop := ∀ (ns : List Int) (cs : List Cb) (d : D), (∀ c ∈ cs, CbOk ns c) → Pl d → cf i [mdD ns cs, d] = if isRessD ns cs d = true then ret .none else thr x
theorem ev_check_results {cf : CF} {it x : Nat} (fu : Nat) (hT : ResOk cf it) {ns : List Int} {cs : List Cb} {d : D} (hc : ∀ c ∈ cs, CbOk ns c) (h : Pl d) : runF cf fu (f_check_results it x) [mdD ns cs, d] = if isRessD ns cs d = true then ret .none else thr x := by
  rw [run_code cf fu (f := f_check_results it x) rfl (s0 := [some (.i (mdD ns cs)), some (.i d), none, none]) rfl]
  cases d with
  | tuple xs =>
    by_cases hl : xs.length ≤ 20
    · have e' : (xs.length : Int) ≤ 20 := by omega
      simp -implicitDefEqProofs [f_check_results, isiD, bindT, biD, lenD, opD, leD, e', truD]
      refine bnd_compM id xs (fun x => .bool (isResD ns cs x)) (by simp -implicitDefEqProofs [seqD]) (fun y hy => ?_) ?_
      · have := hT ns cs y hc (pl_tuple h y hy)
        simp -implicitDefEqProofs [turnC, wipeA, bindT, this]
      · have ha := allD_map (isResD ns cs) xs
        have hsd : isRessD ns cs (.tuple xs) = xs.all (isResD ns cs) := by simp [isRessD, hl]
        rw [hsd]
        simp -implicitDefEqProofs only [ha, m_lift, m_bnd, truD_b]
        cases hq : xs.all (isResD ns cs) <;> simp -implicitDefEqProofs
    · have e' : ¬ (xs.length : Int) ≤ 20 := by omega
      simp -implicitDefEqProofs [f_check_results, isiD, bindT, biD, lenD, opD, leD, e', isRessD, hl, truD]
  | dict kvs => exact (pl_dict h).elim
  | _ => simp -implicitDefEqProofs [f_check_results, isiD, bindT, isRessD, truD]
def smlB (ns : List Int) : Bool := decide (ns.length ≤ 4) && (decide (ns.length ≠ 4) || decide (maxL ns ≤ 2))
end Ev

set_option Elab.async false
set_option linter.all false
set_option maxRecDepth 100000
set_option autoImplicit false
namespace Ev
open PySem
end Ev

set_option Elab.async false
set_option linter.all false
set_option maxRecDepth 100000
set_option autoImplicit false
namespace Ev
open PySem
end Ev

set_option Elab.async false
set_option linter.all false
set_option maxRecDepth 100000
set_option autoImplicit false
namespace Ev
open PySem
end Ev

set_option Elab.async false
set_option linter.all false
set_option maxRecDepth 100000
set_option autoImplicit false
namespace Ev
open PySem
end Ev

set_option Elab.async false
set_option linter.all false
set_option maxRecDepth 100000
set_option autoImplicit false
namespace Ev
open PySem
theorem pl_rs (r : List Int × Bool) : Pl (rsD r) ∧ (rsD r).depth ≤ 2 := by
  have h : ∀ x ∈ [tsD r.1, .bool r.2], Pl x ∧ x.depth ≤ 1 := fun x hx => by
    rcases List.mem_cons.mp hx with e | hx
    · subst e
      exact ⟨pl_ts r.1, depth_ts r.1⟩
    · rw [List.mem_singleton.mp hx]
      exact ⟨pl_bool _, Nat.zero_le _⟩
  refine ⟨pl_tup (by decide) h, ?_⟩
  have a1 := depth_ts r.1
  show PyData.depthAll [tsD r.1, .bool r.2] + 1 ≤ 2
  simp only [PyData.depthAll, PyData.depth]
  omega
theorem pl_ress (rs : Rs) : Pl (ressD rs) := pl_tup (n := 2) (by decide) fun x hx => by
  obtain ⟨r, _, rfl⟩ := List.mem_map.mp hx
  exact pl_rs r
end Ev

set_option Elab.async false
set_option linter.all false
set_option maxRecDepth 100000
set_option autoImplicit false
namespace Ev
open PySem
end Ev

set_option Elab.async false
set_option linter.all false
set_option maxRecDepth 100000
set_option autoImplicit false
namespace Ev
open PySem
end Ev

set_option Elab.async false
set_option linter.all false
set_option maxRecDepth 100000
set_option autoImplicit false
namespace Ev
open PySem
structure SmC (ns : List Int) (cs : List Cb) : Prop where
  ok : MdOk 4 3 2 ns cs
  sml : smlB ns = true
  sum : ns.sum < 9
theorem SmC.md {ns : List Int} {cs : List Cb} (h : SmC ns cs) : MdC ns cs := mdC_of h.ok (by decide) (by decide) (by decide)
end Ev

set_option Elab.async false
set_option linter.all false
set_option maxRecDepth 100000
set_option autoImplicit false
namespace Ev
open PySem
end Ev

set_option Elab.async false
set_option linter.all false
set_option maxRecDepth 100000
set_option autoImplicit false
namespace Ev
open PySem
end Ev

set_option Elab.async false
set_option linter.all false
set_option maxRecDepth 100000
set_option autoImplicit false
namespace Ev
open PySem
end Ev

set_option Elab.async false
set_option linter.all false
set_option maxRecDepth 100000
set_option autoImplicit false
namespace Ev
open PySem
end Ev

set_option Elab.async false
set_option linter.all false
set_option maxRecDepth 100000
set_option autoImplicit false
namespace Ev
open PySem
end Ev

set_option Elab.async false
set_option linter.all false
set_option maxRecDepth 100000
set_option autoImplicit false
namespace Ev
open PySem
theorem ev_law_fails {cf : CF} {ih : Nat} (fu : Nat) (hH : HasOk cf ih) {h : List Cb} {t : List Int} (hr : ∀ c ∈ h, ∀ p ∈ c, 0 ≤ p.1 ∧ p.1 < (t.length : Int)) : runF cf fu (f_law_fails ih) [hyD h, tsD t] = ret (.bool (failB h t)) := by
  rw [run_code cf fu (f := f_law_fails ih) rfl (s0 := [some (.i (hyD h)), some (.i (tsD t)), none]) rfl]
  have hs : seqD (hyD h) = some (h.map cbD) := rfl
  simp -implicitDefEqProofs [f_law_fails]
  refine bnd_compK cbD (fun _ => .int 1) h (fun c => hasB t c) (by simp -implicitDefEqProofs [hs]) (fun c hc => ?_) ?_
  · have := hH t c (hr c hc)
    simp -implicitDefEqProofs [turnC, wipeA, bindT, this]
    cases hasB t c <;> simp -implicitDefEqProofs
  · have hne : opD .ne (.list ((h.filter fun c => hasB t c).map fun _ => PyData.int 1)) (.list []) = some (.bool (failB h t)) := by
      have hp : Pl (.list ((h.filter fun c => hasB t c).map fun _ => PyData.int 1)) := pl_lst (n := 0) (by decide) fun x hx => by
        obtain ⟨y, _, rfl⟩ := List.mem_map.mp hx
        exact ⟨pl_int _, Nat.le_refl _⟩
      have e : failB h t = !(h.filter fun c => hasB t c).isEmpty := by
        unfold failB
        rw [Bool.eq_iff_iff, List.any_eq_true, Bool.not_eq_true', List.isEmpty_eq_false_iff_exists_mem]
        constructor
        · rintro ⟨c, hc, hq⟩
          exact ⟨c, List.mem_filter.mpr ⟨hc, hq⟩⟩
        · rintro ⟨c, hc⟩
          exact ⟨c, (List.mem_filter.mp hc).1, (List.mem_filter.mp hc).2⟩
      rw [op_ne hp pl_lnil, e]
      generalize (h.filter fun c => hasB t c) = F
      cases F <;> simp [PyData.eqv, PyData.eqvAll]
    generalize ((h.filter fun c => hasB t c).map fun _ => PyData.int 1) = HL at *
    simp -implicitDefEqProofs [hne, LIM]
end Ev

set_option Elab.async false
set_option linter.all false
set_option maxRecDepth 100000
set_option autoImplicit false
namespace Ev
open PySem
end Ev

set_option Elab.async false
set_option linter.all false
set_option maxRecDepth 100000
set_option autoImplicit false
namespace Ev
open PySem
section
variable {α β : Type} [DecidableEq α]
variable {e : α → D} {g : β → D}
end
/-- the hypothesis's places lie within the tests -/
def HyIn (ts : List (List Int)) (h : List Cb) : Prop := ∀ t ∈ ts, ∀ c ∈ h, ∀ p ∈ c, 0 ≤ p.1 ∧ p.1 < (t.length : Int)
end Ev

set_option Elab.async false
set_option linter.all false
set_option maxRecDepth 100000
set_option autoImplicit false
namespace Ev
open PySem
end Ev

set_option Elab.async false
set_option linter.all false
set_option maxRecDepth 100000
set_option autoImplicit false
namespace Ev
open PySem
theorem res8 : resM resL (thr 8) = ret (.tuple [.str "results"]) := res_thr rfl
end Ev

set_option Elab.async false
set_option linter.all false
set_option maxRecDepth 100000
set_option autoImplicit false
namespace Ev
open PySem
end Ev

set_option Elab.async false
set_option linter.all false
set_option maxRecDepth 100000
set_option autoImplicit false
namespace Ev
open PySem
end Ev

set_option Elab.async false
set_option linter.all false
set_option maxRecDepth 100000
set_option autoImplicit false
namespace Ev
open PySem
/-- the tests of results -/
def RsIn (ts : List (List Int)) (rs : Rs) : Prop := ∀ r ∈ rs, r.1 ∈ ts
abbrev LRes (cf : CF) (i : Nat) : Prop := ∀ (ts : List (List Int)) (h : List Cb) (most : Int), 0 ≤ most → most ≤ 20 → ts.length ≤ 100000 → HyIn ts h → Ho Tn (cf i [scrD, obD 0, .list (ts.map tsD), hyD h, .int most]) fun d => ∃ rs : Rs, d = ressD rs ∧ RsIn ts rs ∧ (rs.length : Int) ≤ most
def JRs (VD hd : D) (most : Int) (ts : List (List Int)) (k : Nat) (s : Sl) : Prop := ∃ (rs : Rs) (x6 x7 : Option SV), s = [some (.i scrD), some (.i (obD 0)), some (.i VD), some (.i hd), some (.i (.int most)), some (.l (rs.map rsD)), x6, x7] ∧ RsIn ts rs ∧ rs.length ≤ k
theorem ev_law_results {cf : CF} {id_ ifl : Nat} (fu : Nat) (hD : DrawOk cf id_) (hF : DoesFail cf ifl) {ts : List (List Int)} {h : List Cb} {most : Int} (h0 : 0 ≤ most) (h1 : most ≤ 20) (hl : ts.length ≤ 100000) (hin : HyIn ts h) : Ho Tn (runF cf fu (f_law_results id_ ifl) [scrD, obD 0, .list (ts.map tsD), hyD h, .int most]) fun d => ∃ rs : Rs, d = ressD rs ∧ RsIn ts rs ∧ (rs.length : Int) ≤ most := by
  rw [run_code cf fu (f := f_law_results id_ ifl) rfl (s0 := [some (.i scrD), some (.i (obD 0)), some (.i (.list (ts.map tsD))), some (.i (hyD h)), some (.i (.int most)), none, none, none]) rfl]
  have hln : biD .len (.list (ts.map tsD)) = some (.int ts.length) := by
    show some (PyData.int ((ts.map tsD).length : Int)) = _
    rw [List.length_map]
  have hne := ne_lnilT ts
  have hix0 : ∀ {r : Int}, 0 ≤ r → r < ts.length → ∃ t, t ∈ ts ∧ ts[r.toNat]? = some t ∧ ixD (.list (ts.map tsD)) (.int r) = some (tsD t) := fun r0 r1 => ix_lst r0 r1
  generalize PyData.list (ts.map tsD) = VD at *
  simp -implicitDefEqProofs [f_law_results, bindT, LIM, mutS, opD, addD]
  refine Ho.bnd (hD (most + 1) (by omega) (by omega)) ?_
  rintro dr ⟨r, rfl, r0, r1⟩
  simp -implicitDefEqProofs [intD, range_ok r0 (by omega : r < 16777216)]
  refine Ho.bnd (Ho.for (JRs VD (hyD h) most ts) ⟨[], none, none, rfl, (fun t ht => nomatch ht), Nat.le_refl _⟩ ?_) ?_
  · rintro k d s hk ⟨rs, x6, x7, rfl, hm, hle⟩
    have hkl := (List.getElem?_eq_some_iff.mp hk).1
    rw [List.length_map, List.length_range] at hkl
    cases hte : ts.isEmpty with
    | true =>
      rw [hte] at hne
      simp -implicitDefEqProofs [turnF, bindT, hne]
      exact Ho.nx ⟨rs, _, _, rfl, hm, by omega⟩
    | false =>
      rw [hte] at hne
      have htp : 0 < ts.length := List.length_pos_iff.mpr fun e => by rw [e] at hte; cases hte
      simp -implicitDefEqProofs [turnF, bindT, hne, hln]
      refine Ho.bnd (hD ts.length (by omega) (by omega)) ?_
      rintro dq ⟨q, rfl, q0, q1⟩
      obtain ⟨t, htm, _, hix⟩ := hix0 q0 q1
      have hlt : rs.length < 16777216 := by omega
      have hf := hF h t (hin t htm)
      simp -implicitDefEqProofs [hix, LIM, bindT, hf]
      refine Ho.bnd (hD 15 (by decide) (by decide)) ?_
      rintro dz ⟨z, rfl, z0, z1⟩
      have e1 := op_eq_int z 0
      have e2 : opD .ne (.bool (failB h t)) (.bool (z == 0)) = some (.bool (failB h t != (z == 0))) := by cases failB h t <;> cases (z == 0) <;> rfl
      have hst : ∀ b : Bool, rs.map rsD ++ [.tuple [tsD t, .bool b]] = (rs ++ [(t, b)]).map rsD := fun b => by
        rw [List.map_append]
        rfl
      have hs2 := hst (failB h t != (z == 0))
      generalize (failB h t != (z == 0)) = b at *
      simp -implicitDefEqProofs [e1, e2, LIM, hlt]
      refine Ho.nx ⟨rs ++ [(t, b)], some (.i d), some (.i (tsD t)), by rw [hs2], fun x hx => ?_, ?_⟩
      · rcases List.mem_append.mp hx with hx | hx
        · exact hm x hx
        · rw [List.mem_singleton] at hx
          rw [hx]
          exact htm
      · rw [List.length_append, List.length_singleton]
        omega
  · rintro fl ⟨s', rfl, rs, x6, x7, rfl, hm, hle⟩
    rw [List.length_map, List.length_range] at hle
    simp -implicitDefEqProofs [biD, tupleD]
    exact Ho.ret ⟨rs, rfl, hm, by omega⟩
end Ev

set_option Elab.async false
set_option linter.all false
set_option maxRecDepth 100000
set_option autoImplicit false
namespace Ev
open PySem
abbrev Tt := List Nat
def spC (c : Nat) : Tt → List Tt
  | [] => [[]]
  | x :: r => if x = c then [] :: spC c r else match spC c r with
    | p :: ps => (x :: p) :: ps
    | [] => [[x]]
theorem spC_cons (c : Nat) : ∀ l : Tt, ∃ p ps, spC c l = p :: ps
  | [] => ⟨[], [], rfl⟩
  | x :: r => by
    obtain ⟨p, ps, e⟩ := spC_cons c r
    by_cases h : x = c
    · exact ⟨[], spC c r, by rw [spC, if_pos h]⟩
    · exact ⟨x :: p, ps, by rw [spC, if_neg h, e]⟩
theorem spC_ne (c : Nat) (l : Tt) : spC c l ≠ [] := by
  obtain ⟨p, ps, e⟩ := spC_cons c l
  rw [e]
  exact List.cons_ne_nil _ _
theorem pre_one (c x : Nat) (r : Tt) : TL.pre [c] (x :: r) = decide (x = c) := by
  show ([x] == [c]) = _
  by_cases h : x = c
  · subst h
    simp
  · simp [h]
theorem spl_spC (c : Nat) : ∀ (l acc : Tt), TL.spl [c] 0 acc l = match spC c l with
    | p :: ps => (acc ++ p) :: ps
    | [] => [acc]
  | [], acc => by simp [spC, TL.spl_nil]
  | x :: r, acc => by
    obtain ⟨p, ps, e⟩ := spC_cons c r
    by_cases h : x = c
    · have hp : TL.pre [c] (x :: r) = true := by rw [pre_one]; exact decide_eq_true h
      rw [TL.spl_hit hp, spC, if_pos h]
      show acc :: TL.spl [c] 0 [] r = (acc ++ []) :: spC c r
      rw [spl_spC c r [], e, List.append_nil]
      rfl
    · have hp : TL.pre [c] (x :: r) = false := by rw [pre_one]; exact decide_eq_false h
      rw [TL.spl_miss hp, spC, if_neg h, spl_spC c r (acc ++ [x]), e]
      simp
theorem spl_sp (c : Nat) (l : Tt) : TL.spl [c] 0 [] l = spC c l := by
  obtain ⟨p, ps, e⟩ := spC_cons c l
  rw [spl_spC, e]
  rfl
theorem join_cons (c : Nat) (p q : Tt) (r : List Tt) : TL.joinL [c] (p :: q :: r) = p ++ c :: TL.joinL [c] (q :: r) := rfl
theorem join_sp (c : Nat) : ∀ l : Tt, TL.joinL [c] (spC c l) = l
  | [] => rfl
  | x :: r => by
    obtain ⟨p, ps, e⟩ := spC_cons c r
    have ih := join_sp c r
    by_cases h : x = c
    · rw [spC, if_pos h, e, join_cons, ← e, ih, h]
      rfl
    · rw [spC, if_neg h, e]
      rw [e] at ih
      show TL.joinL [c] ((x :: p) :: ps) = x :: r
      cases ps with
      | nil =>
        show x :: p = x :: r
        rw [show p = r from ih]
      | cons q qs =>
        rw [join_cons] at ih ⊢
        rw [List.cons_append, ih]
theorem sp_free (c : Nat) : ∀ (l : Tt), ∀ p ∈ spC c l, c ∉ p
  | [], p, hp => by
    have : p = [] := by simpa [spC] using hp
    rw [this]
    simp
  | x :: r, p, hp => by
    obtain ⟨q, qs, e⟩ := spC_cons c r
    have ih := sp_free c r
    by_cases h : x = c
    · rw [spC, if_pos h] at hp
      rcases List.mem_cons.mp hp with rfl | hp
      · simp
      · exact ih p hp
    · rw [spC, if_neg h, e] at hp
      rcases List.mem_cons.mp hp with rfl | hp
      · intro hm
        rcases List.mem_cons.mp hm with z | z
        · exact h z.symm
        · exact ih q (by rw [e]; exact List.mem_cons_self) z
      · exact ih p (by rw [e]; exact List.mem_cons_of_mem _ hp)
theorem sp_join {c : Nat} {ps : List Tt} (hn : ps ≠ []) (hf : ∀ p ∈ ps, c ∉ p) : spC c (TL.joinL [c] ps) = ps := by
  rw [← spl_sp]
  exact TL.spl_join hn hf
theorem join_snoc (c : Nat) : ∀ (rs : List Tt) (p : Tt), TL.joinL [c] (rs ++ [p]) = (rs.map (· ++ [c])).flatten ++ p
  | [], p => rfl
  | [r], p => by
    show r ++ ([c] ++ p) = (r ++ [c]) ++ [] ++ p
    simp
  | r :: q :: rs, p => by
    have ih := join_snoc c (q :: rs) p
    show r ++ ([c] ++ TL.joinL [c] (q :: rs ++ [p])) = _
    rw [ih]
    simp
/-- each behind its sign -/
theorem join_flat (c : Nat) : ∀ (ps : List Tt), ps ≠ [] → c :: TL.joinL [c] ps = (ps.map (c :: ·)).flatten
  | [], h => absurd rfl h
  | [p], _ => by
    show c :: p = (c :: p) ++ []
    simp
  | p :: q :: r, _ => by
    rw [join_cons, List.map_cons, List.flatten_cons, ← join_flat c (q :: r) (List.cons_ne_nil _ _)]
    simp

def mapO {α β : Type} (f : α → Option β) : List α → Option (List β)
  | [] => some []
  | x :: r => match f x, mapO f r with
    | some y, some ys => some (y :: ys)
    | _, _ => none
theorem mapO_some {α β : Type} {f : α → Option β} {g : β → α} (hg : ∀ x y, f x = some y → g y = x) : ∀ {l : List α} {ys : List β}, mapO f l = some ys → ys.map g = l
  | [], ys, h => by
    cases h
    rfl
  | x :: r, ys, h => by
    unfold mapO at h
    split at h
    · rename_i y ys' e1 e2
      cases h
      rw [List.map_cons, hg x y e1, mapO_some hg e2]
    · cases h
theorem mapO_all {α β : Type} {f : α → Option β} {P : β → Prop} (hg : ∀ x y, f x = some y → P y) : ∀ {l : List α} {ys : List β}, mapO f l = some ys → ∀ y ∈ ys, P y
  | [], ys, h => by
    cases h
    intro y hy
    cases hy
  | x :: r, ys, h => by
    unfold mapO at h
    split at h
    · rename_i y ys' e1 e2
      cases h
      intro z hz
      rcases List.mem_cons.mp hz with rfl | hz
      · exact hg x _ e1
      · exact mapO_all hg e2 z hz
    · cases h
theorem mapO_of {α β : Type} {f : α → Option β} {g : β → α} : ∀ {ys : List β}, (∀ y ∈ ys, f (g y) = some y) → mapO f (ys.map g) = some ys
  | [], _ => rfl
  | y :: ys, h => by
    rw [List.map_cons, mapO, h y List.mem_cons_self, mapO_of fun z hz => h z (List.mem_cons_of_mem _ hz)]
theorem mapO_len {α β : Type} {f : α → Option β} : ∀ {l : List α} {ys : List β}, mapO f l = some ys → ys.length = l.length
  | [], ys, h => by
    cases h
    rfl
  | x :: r, ys, h => by
    unfold mapO at h
    split at h
    · rename_i y ys' e1 e2
      cases h
      rw [List.length_cons, List.length_cons, mapO_len e2]
    · cases h

def numL : Tt → Option Int
  | [c] => if 48 ≤ c ∧ c ≤ 57 then some ((c - 48 : Nat) : Int) else none
  | _ => none
/-- a digit's text -/
def digT (n : Int) : Tt := [48 + n.toNat]
def Dig (n : Int) : Prop := 0 ≤ n ∧ n ≤ 9
theorem numL_some {w : Tt} {n : Int} (h : numL w = some n) : Dig n ∧ w = digT n := by
  unfold numL at h
  split at h
  · rename_i c
    split at h
    · rename_i hc
      cases h
      refine ⟨⟨by omega, by omega⟩, ?_⟩
      show [c] = [48 + ((c - 48 : Nat) : Int).toNat]
      rw [Int.toNat_natCast, show 48 + (c - 48) = c by omega]
    · cases h
  · cases h
theorem numL_dig {n : Int} (h : Dig n) : numL (digT n) = some n := by
  obtain ⟨h0, h1⟩ := h
  show (if 48 ≤ 48 + n.toNat ∧ 48 + n.toNat ≤ 57 then some ((48 + n.toNat - 48 : Nat) : Int) else none) = some n
  rw [if_pos ⟨by omega, by omega⟩]
  congr 1
  omega
def pairL : Tt → Option (Int × Int)
  | [a, e, b] => if e = 61 then (match numL [a], numL [b] with
    | some x, some y => some (x, y)
    | _, _ => none) else none
  | _ => none
def pairT (p : Int × Int) : Tt := digT p.1 ++ 61 :: digT p.2
theorem pairL_some {w : Tt} {p : Int × Int} (h : pairL w = some p) : Dig p.1 ∧ Dig p.2 ∧ w = pairT p := by
  unfold pairL at h
  split at h
  · rename_i a e b
    split at h
    · rename_i he
      split at h
      · rename_i x y e1 e2
        cases h
        obtain ⟨h1, h2⟩ := numL_some e1
        obtain ⟨h3, h4⟩ := numL_some e2
        refine ⟨h1, h3, ?_⟩
        subst he
        show [a] ++ 61 :: [b] = _
        rw [h2, h4]
        rfl
      · cases h
    · cases h
  · cases h
theorem pairL_dig {p : Int × Int} (h : Dig p.1 ∧ Dig p.2) : pairL (pairT p) = some p := by
  have h1 := numL_dig h.1
  have h2 := numL_dig h.2
  show (if 61 = 61 then (match numL (digT p.1), numL (digT p.2) with
    | some x, some y => some (x, y)
    | _, _ => none) else none) = _
  rw [if_pos rfl, h1, h2]
theorem dig_free {n : Int} (h : Dig n) {c : Nat} (hc : c < 48) : c ∉ digT n := by
  intro hm
  have : c = 48 + n.toNat := by simpa [digT] using hm
  omega
theorem pair_free {p : Int × Int} (h : Dig p.1 ∧ Dig p.2) {c : Nat} (hc : c < 48) : c ∉ pairT p := by
  intro hm
  rcases List.mem_append.mp hm with z | z
  · exact dig_free h.1 hc z
  · rcases List.mem_cons.mp z with z | z
    · omega
    · exact dig_free h.2 hc z
abbrev Prs := List (Int × Int)
def DigP (c : Prs) : Prop := ∀ p ∈ c, Dig p.1 ∧ Dig p.2
def prsL (t : Tt) : Option Prs := mapO pairL (spC 32 t)
def prsT (c : Prs) : Tt := TL.joinL [32] (c.map pairT)
theorem prs_some {t : Tt} {c : Prs} (h : prsL t = some c) : DigP c ∧ c ≠ [] ∧ prsT c = t := by
  refine ⟨mapO_all (fun x y e => ⟨(pairL_some e).1, (pairL_some e).2.1⟩) h, fun e => ?_, ?_⟩
  · have := mapO_len h
    rw [e] at this
    exact spC_ne 32 t (List.eq_nil_of_length_eq_zero this.symm)
  · unfold prsT
    rw [mapO_some (g := pairT) (fun x y e => (pairL_some e).2.2.symm) h, join_sp]
theorem prs_dig {c : Prs} (h : DigP c) (hn : c ≠ []) : prsL (prsT c) = some c := by
  unfold prsL prsT
  rw [sp_join (by simpa using hn) fun p hp => ?_]
  · exact mapO_of fun p hp => pairL_dig (h p hp)
  · obtain ⟨q, hq, rfl⟩ := List.mem_map.mp hp
    exact pair_free (h q hq) (by decide)
def numsL (t : Tt) : Option (List Int) := mapO numL (spC 32 t)
def numsT (ns : List Int) : Tt := TL.joinL [32] (ns.map digT)
theorem nums_some {t : Tt} {ns : List Int} (h : numsL t = some ns) : (∀ n ∈ ns, Dig n) ∧ ns ≠ [] ∧ numsT ns = t := by
  refine ⟨mapO_all (fun x y e => (numL_some e).1) h, fun e => ?_, ?_⟩
  · have := mapO_len h
    rw [e] at this
    exact spC_ne 32 t (List.eq_nil_of_length_eq_zero this.symm)
  · unfold numsT
    rw [mapO_some (g := digT) (fun x y e => (numL_some e).2.symm) h, join_sp]
theorem nums_dig {ns : List Int} (h : ∀ n ∈ ns, Dig n) (hn : ns ≠ []) : numsL (numsT ns) = some ns := by
  unfold numsL numsT
  rw [sp_join (by simpa using hn) fun p hp => ?_]
  · exact mapO_of fun p hp => numL_dig (h p hp)
  · obtain ⟨q, hq, rfl⟩ := List.mem_map.mp hp
    exact dig_free (h q hq) (by decide)
theorem joinL_free {c d : Nat} (hcd : c ≠ d) : ∀ {ps : List Tt}, (∀ p ∈ ps, c ∉ p) → c ∉ TL.joinL [d] ps
  | [], _ => by simp [TL.joinL]
  | [p], h => h p List.mem_cons_self
  | p :: q :: r, h => by
    rw [join_cons]
    intro hm
    rcases List.mem_append.mp hm with z | z
    · exact h p List.mem_cons_self z
    · rcases List.mem_cons.mp z with z | z
      · exact hcd z
      · exact joinL_free hcd (fun x hx => h x (List.mem_cons_of_mem _ hx)) z
theorem prsT_free {c : Prs} (h : DigP c) : 10 ∉ prsT c := joinL_free (by decide) fun p hp => by
  obtain ⟨q, hq, rfl⟩ := List.mem_map.mp hp
  exact pair_free (h q hq) (by decide)
theorem numsT_free {ns : List Int} (h : ∀ n ∈ ns, Dig n) : 10 ∉ numsT ns := joinL_free (by decide) fun p hp => by
  obtain ⟨q, hq, rfl⟩ := List.mem_map.mp hp
  exact dig_free (h q hq) (by decide)

def rowsL (t : Tt) : Option (List Tt) := if t ≠ [] ∧ t.getLast? ≠ some 10 then none else some (spC 10 t).dropLast
def rowsT (rs : List Tt) : Tt := (rs.map (· ++ [10])).flatten
theorem rows_some {t : Tt} {rs : List Tt} (h : rowsL t = some rs) : rowsT rs = t ∧ ∀ r ∈ rs, 10 ∉ r := by
  unfold rowsL at h
  split at h
  · cases h
  · rename_i hc
    cases h
    refine ⟨?_, fun r hr => sp_free 10 t r ((List.dropLast_sublist _).mem hr)⟩
    have hne := spC_ne 10 t
    have e := List.dropLast_concat_getLast hne
    have hj := join_sp 10 t
    generalize hL : (spC 10 t).getLast hne = p at e
    rw [← e, join_snoc] at hj
    have hp : 10 ∉ p := sp_free 10 t p (by rw [← hL]; exact List.getLast_mem hne)
    unfold rowsT
    cases hq : p with
    | nil => rw [hq, List.append_nil] at hj; exact hj
    | cons x r =>
      exfalso
      apply hc
      have hpn : p ≠ [] := by rw [hq]; exact List.cons_ne_nil _ _
      have hl : t.getLast? = p.getLast? := by
        rw [← hj, List.getLast?_append]
        rw [List.getLast?_eq_some_getLast hpn]
        rfl
      refine ⟨fun e0 => ?_, fun e0 => ?_⟩
      · rw [e0] at hj
        exact hpn (List.append_eq_nil_iff.mp hj).2
      · rw [e0] at hl
        exact hp (List.mem_of_getLast? hl.symm)
theorem rows_of {rs : List Tt} (h : ∀ r ∈ rs, 10 ∉ r) : rowsL (rowsT rs) = some rs := by
  have e1 : rowsT rs = TL.joinL [10] (rs ++ [[]]) := by rw [join_snoc, List.append_nil]; rfl
  have e2 : spC 10 (rowsT rs) = rs ++ [[]] := by
    rw [e1]
    refine sp_join (by simp) fun p hp => ?_
    rcases List.mem_append.mp hp with z | z
    · exact h p z
    · rw [List.mem_singleton.mp z]
      simp
  unfold rowsL
  rw [if_neg, e2, List.dropLast_concat]
  rintro ⟨h1, h2⟩
  rcases List.eq_nil_or_concat rs with rfl | ⟨rs', r, rfl⟩
  · exact h1 rfl
  · apply h2
    unfold rowsT
    rw [List.concat_eq_append, List.map_append, List.flatten_append]
    simp
end Ev

set_option Elab.async false
set_option linter.all false
set_option maxRecDepth 100000
set_option autoImplicit false
namespace Ev
open PySem
abbrev sx (l : Tt) : Str := SX.S l
theorem sx_tl (x : Str) : sx x.cps.toList = x := SX.S_tl x
theorem sx_len (l : Tt) : (sx l).length = l.length := SX.S_len l
theorem sx_app (a b : Tt) : sx a ++ sx b = sx (a ++ b) := SX.S_cat a b
def kSizes : Tt := [115, 105, 122, 101, 115, 32]
def kNot : Tt := [110, 111, 116, 32]
def kFail : Tt := [102, 97, 105, 108, 32]
def kPass : Tt := [112, 97, 115, 115, 32]
theorem y_nil : (Str.ofString "" : Str) = sx [] := by decide +kernel
theorem y_sp : (Str.ofString " " : Str) = sx [32] := by decide +kernel
theorem y_nl : (Str.ofString "\n" : Str) = sx [10] := by decide +kernel
theorem y_eq : (Str.ofString "=" : Str) = sx [61] := by decide +kernel
theorem y_sizes : (Str.ofString "sizes " : Str) = sx kSizes := by decide +kernel
theorem y_not : (Str.ofString "not " : Str) = sx kNot := by decide +kernel
theorem y_fail : (Str.ofString "fail " : Str) = sx kFail := by decide +kernel
theorem y_pass : (Str.ofString "pass " : Str) = sx kPass := by decide +kernel
theorem y_digs : (Str.ofString "0123456789" : Str) = sx [48, 49, 50, 51, 52, 53, 54, 55, 56, 57] := by decide +kernel
/-- plain signs -/
def Chs (l : Tt) : Prop := ∀ c ∈ l, c < 128
theorem Chs.app {a b : Tt} (h : Chs a) (k : Chs b) : Chs (a ++ b) := fun c hc => by
  rcases List.mem_append.mp hc with z | z
  · exact h c z
  · exact k c z
theorem Chs.take {a : Tt} (h : Chs a) (n : Nat) : Chs (a.take n) := fun c hc => h c (List.mem_of_mem_take hc)
theorem Chs.drop {a : Tt} (h : Chs a) (n : Nat) : Chs (a.drop n) := fun c hc => h c (List.mem_of_mem_drop hc)
theorem lay_sx {l : Tt} (h : Chs l) : PyData.canLay0 (.str (sx l)) = true := by
  rw [PyData.canLay0]
  show (sx l).cps.all _ = true
  rw [← Array.all_toList]
  show l.all _ = true
  rw [List.all_eq_true]
  intro c hc
  have := h c hc
  exact decide_eq_true (by omega)
theorem pl_sx {l : Tt} (h : Chs l) : Pl (.str (sx l)) := pl_iff.mpr ⟨lay_sx h, (show 0 ≤ 64 by decide)⟩
theorem eqv_str (a b : Tt) : PyData.eqv (.str (sx a)) (.str (sx b)) = decide (a = b) := by
  show (sx a == sx b) = _
  exact SX.S_beq_eq
theorem tx_eq {a b : Tt} (ha : Chs a) (hb : Chs b) : opD .eq (.str (sx a)) (.str (sx b)) = some (.bool (decide (a = b))) := by
  rw [op_eq (pl_sx ha) (pl_sx hb), eqv_str]
theorem tx_ne {a b : Tt} (ha : Chs a) (hb : Chs b) : opD .ne (.str (sx a)) (.str (sx b)) = some (.bool (!decide (a = b))) := by
  rw [op_ne (pl_sx ha) (pl_sx hb), eqv_str]
theorem sp_mem (c : Nat) (l : Tt) : ∀ p ∈ spC c l, ∀ x ∈ p, x ∈ l := by
  induction l with
  | nil =>
    intro p hp x hx
    have : p = [] := by simpa [spC] using hp
    rw [this] at hx
    cases hx
  | cons y r ih =>
    obtain ⟨q, qs, e⟩ := spC_cons c r
    intro p hp x hx
    by_cases h : y = c
    · rw [spC, if_pos h] at hp
      rcases List.mem_cons.mp hp with rfl | hp
      · cases hx
      · exact List.mem_cons_of_mem _ (ih p hp x hx)
    · rw [spC, if_neg h, e] at hp
      rcases List.mem_cons.mp hp with rfl | hp
      · rcases List.mem_cons.mp hx with rfl | hx
        · exact List.mem_cons_self
        · exact List.mem_cons_of_mem _ (ih q (by rw [e]; exact List.mem_cons_self) x hx)
      · exact List.mem_cons_of_mem _ (ih p (by rw [e]; exact List.mem_cons_of_mem _ hp) x hx)
theorem Chs.sp {c : Nat} {l : Tt} (h : Chs l) : ∀ p ∈ spC c l, Chs p := fun p hp x hx => h x (sp_mem c l p hp x hx)
theorem tx_add {a b : Tt} (h : a.length + b.length ≤ LIM) : opD .add (.str (sx a)) (.str (sx b)) = some (.str (sx (a ++ b))) := by
  show (if (sx a).length + (sx b).length ≤ LIM then some (PyData.str (sx a ++ sx b)) else none) = _
  rw [sx_len, sx_len, if_pos h, sx_app]
theorem tx_len {a : Tt} (h : a.length ≤ LIM) : biD .len (.str (sx a)) = some (.int a.length) := by
  show (if (sx a).length ≤ LIM then some (PyData.int (sx a).length) else none) = _
  rw [sx_len, if_pos h]
theorem tx_split {c : Nat} {l : Tt} (hc : c < 256) (h : l.length + 2 ≤ LIM) : txD .split (.str (sx l)) (.str (sx [c])) = some (.list ((spC c l).map fun p => .str (sx p))) := by
  show (if (sx [c]).length ≠ 0 ∧ (sx l).length + 2 ≤ LIM then some (PyData.list ((Txt.split (sx l) (sx [c])).map .str)) else none) = _
  rw [if_pos ⟨by rw [sx_len]; exact Nat.one_ne_zero, by rw [sx_len]; exact h⟩, SX.split_S (List.cons_ne_nil _ _) (by simp [hc]), spl_sp, List.map_map]
  rfl
theorem strs_map : ∀ ps : List Tt, strsD (ps.map fun p => .str (sx p)) = some (ps.map sx)
  | [] => rfl
  | p :: ps => by
    show (strsD (ps.map fun p => PyData.str (sx p))).map (sx p :: ·) = _
    rw [strs_map ps]
    rfl
def wgt (ps : List Tt) : Nat := (ps.map (·.length)).sum
theorem wgt_sx (ps : List Tt) : ((ps.map sx).map (·.length)).sum = wgt ps := by
  unfold wgt
  rw [List.map_map]
  exact congrArg List.sum (List.map_congr_left fun p _ => sx_len p)
theorem tx_join {a : Tt} {ps : List Tt} (h : wgt ps + ps.length * a.length ≤ 16777216) : txD .join (.str (sx a)) (.list (ps.map fun p => .str (sx p))) = some (.str (sx (TL.joinL a ps))) := by
  show (Option.bind (some (ps.map fun p => PyData.str (sx p))) fun ds => (strsD ds).bind fun ys => if (ys.map (·.length)).sum + ys.length * (sx a).length ≤ 16777216 then some (PyData.str (Txt.join (sx a) ys)) else none) = _
  rw [Option.bind_some, strs_map, Option.bind_some, wgt_sx, List.length_map, sx_len, if_pos h]
  exact congrArg (fun s => some (PyData.str s)) (SX.join_S a ps)
theorem tx_to {l : Tt} (h : l.length ≤ LIM) (k : Nat) : slD (.str (sx l)) none (some (k : Int)) = some (.str (sx (l.take k))) := by
  show (if (sx l).length ≤ LIM then some (PyData.str (L2.cutS (sx l) none (some (k : Int)))) else none) = _
  rw [sx_len, if_pos h]
  congr 2
  rw [C8.cutS_slice, SX.slice_to (by omega), Int.toNat_natCast]
theorem tx_from {l : Tt} (h : l.length ≤ LIM) (k : Nat) : slD (.str (sx l)) (some (k : Int)) none = some (.str (sx (l.drop k))) := by
  show (if (sx l).length ≤ LIM then some (PyData.str (L2.cutS (sx l) (some (k : Int)) none)) else none) = _
  rw [sx_len, if_pos h]
  congr 2
  rw [C8.cutS_slice, SX.slice_from (by omega), Int.toNat_natCast]
theorem tx_ix {l : Tt} (h : l.length ≤ LIM) {k c : Nat} (hk : l[k]? = some c) : ixD (.str (sx l)) (.int (k : Int)) = some (.str (sx [c])) := by
  have hl := (List.getElem?_eq_some_iff.mp hk).1
  show (if (sx l).length ≤ LIM then (ixI (sx l).cps.toList.length (k : Int)).bind fun j => ((sx l).cps.toList[j]?).map fun c => PyData.str ⟨#[c]⟩ else none) = _
  rw [sx_len, if_pos h]
  show ((ixI l.length (k : Int)).bind fun j => (l[j]?).map fun c => PyData.str ⟨#[c]⟩) = _
  have e : ixI l.length (k : Int) = some k := by
    unfold ixI
    rw [if_pos (by omega), if_pos (by omega), Int.toNat_natCast]
  rw [e, Option.bind_some, hk]
  rfl
theorem tx_last {l : Tt} (h : l.length ≤ LIM) {c : Nat} (hk : l.getLast? = some c) : ixD (.str (sx l)) (.int (-1)) = some (.str (sx [c])) := by
  have hn : l ≠ [] := fun e => by rw [e] at hk; cases hk
  have hp : 0 < l.length := List.length_pos_iff.mpr hn
  show (if (sx l).length ≤ LIM then (ixI (sx l).cps.toList.length (-1)).bind fun j => ((sx l).cps.toList[j]?).map fun c => PyData.str ⟨#[c]⟩ else none) = _
  rw [sx_len, if_pos h]
  show ((ixI l.length (-1)).bind fun j => (l[j]?).map fun c => PyData.str ⟨#[c]⟩) = _
  have e : ixI l.length (-1) = some (l.length - 1) := by
    unfold ixI
    rw [if_neg (by omega), if_pos (by omega)]
    congr 1
    omega
  rw [e, Option.bind_some]
  rw [List.getLast?_eq_getElem?] at hk
  rw [hk]
  rfl
theorem tx_dig (n : Fin 10) : toString ((n.val : Nat) : Int) = sx (digT (n.val : Nat)) := by
  revert n
  decide +kernel
theorem tx_str {n : Int} (h : Dig n) : biD .stri (.int n) = some (.str (sx (digT n))) ∧ fvalD (.int n) = some (.str (sx (digT n))) := by
  obtain ⟨h0, h1⟩ := h
  have e := tx_dig ⟨n.toNat, by omega⟩
  have e2 : ((n.toNat : Nat) : Int) = n := by omega
  rw [show (((⟨n.toNat, by omega⟩ : Fin 10).val : Nat) : Int) = n from e2] at e
  have hq : n.natAbs < 1000000000 := by omega
  constructor
  · show (if n.natAbs < 1000000000 then some (PyData.str (toString n)) else none) = _
    rw [if_pos hq, e]
  · show (if n.natAbs < 1000000000 then some (PyData.str (toString n)) else none) = _
    rw [if_pos hq, e]
theorem tx_int0 (n : Fin 10) : PySem.intText? (sx [48 + n.val]) = some ((n.val : Nat) : Int) := by
  revert n
  decide +kernel
theorem tx_int {c : Nat} (h : 48 ≤ c ∧ c ≤ 57) : biD .toint (.str (sx [c])) = some (.int ((c - 48 : Nat) : Int)) := by
  have e := tx_int0 ⟨c - 48, by omega⟩
  rw [show 48 + ((⟨c - 48, by omega⟩ : Fin 10).val) = c by show 48 + (c - 48) = c; omega] at e
  show (if (sx [c]).length ≤ 640 then (PySem.intText? (sx [c])).map PyData.int else none) = _
  rw [sx_len, if_pos (by show 1 ≤ 640; decide), e]
  rfl
theorem tx_in (c : Nat) : opD .notin (.str (sx [c])) (.str (Str.ofString "0123456789")) = some (.bool (!decide (48 ≤ c ∧ c ≤ 57))) := by
  rw [y_digs]
  show ((Option.map (fun g => decide (g ∈ ([48, 49, 50, 51, 52, 53, 54, 55, 56, 57] : Tt))) (some c)).map fun b => PyData.bool (!b)) = _
  simp only [Option.map_some]
  congr 3
  apply Bool.eq_iff_iff.mpr
  simp only [decide_eq_true_eq]
  constructor
  · intro h
    simp at h
    omega
  · intro h
    simp
    omega
def orT {α β : Type} (x : Nat) (k : α → M β) : Option α → M β
  | some a => k a
  | none => thr x
@[simp] theorem orT_some {α β : Type} (x : Nat) (k : α → M β) (a : α) : orT x k (some a) = k a := rfl
@[simp] theorem orT_none {α β : Type} (x : Nat) (k : α → M β) : orT x k none = thr x := rfl
theorem orT_bnd {α β γ : Type} (x : Nat) (k : α → M β) (f : β → M γ) (o : Option α) : bnd (orT x k o) f = orT x (fun a => bnd (k a) f) o := by cases o <;> rfl
/-- a comprehension that may raise -/
theorem ev_compx {α β : Type} {cf : CF} {elt : E} {tg : Tg} {it : I} {own : List Nat} {s : Sl} (e : α → D) (g : α → Option β) (k : β → D) (x : Nat) (l : List α) (hi : evI cf it s = ret (l.map e)) (h : ∀ a ∈ l, turnX cf elt tg (wipeA s own) (e a) = orT x (fun b => ret (some (k b))) (g a)) :
    evE cf (.compx elt tg it own) s = orT x (fun bs => ret (.list (bs.map k))) (mapO g l) := by
  have e0 : evE cf (.compx elt tg it own) s = bnd (evI cf it s) fun ds => bnd (compL (turnX cf elt tg (wipeA s own)) ds) fun r => ret (.list r) := by
    simp only [evE]
    rfl
  have key : ∀ l : List α, (∀ a ∈ l, turnX cf elt tg (wipeA s own) (e a) = orT x (fun b => ret (some (k b))) (g a)) → compL (turnX cf elt tg (wipeA s own)) (l.map e) = orT x (fun bs => ret (bs.map k)) (mapO g l) := by
    intro l
    induction l with
    | nil => intro _; rfl
    | cons a l ih =>
      intro h
      rw [List.map_cons, compL, h a List.mem_cons_self, ih fun y hy => h y (List.mem_cons_of_mem _ hy), mapO]
      cases g a with
      | none => rfl
      | some b => cases mapO g l <;> rfl
  rw [e0, hi, m_bnd, key l h]
  cases mapO g l <;> rfl
/-- a loop that gathers, or raises -/
theorem for_orT {α β : Type} {f : D → Sl → M Fl} (e : α → D) (g : α → Option β) (st : Option SV → List β → Sl) (x : Nat) (n : Nat) :
    ∀ (l : List α), (∀ a ∈ l, ∀ v acc, acc.length < n → ∃ v', f (e a) (st v acc) = orT x (fun b => ret (.nx (st v' (acc ++ [b])))) (g a)) → ∀ (v : Option SV) (acc : List β), acc.length + l.length ≤ n → ∃ v', forL f (l.map e) (st v acc) = orT x (fun bs => ret (.nx (st v' (acc ++ bs)))) (mapO g l)
  | [], _, v, acc, _ => ⟨v, by
    show ret (Fl.nx (st v acc)) = ret (Fl.nx (st v (acc ++ [])))
    rw [List.append_nil]⟩
  | a :: l, h, v, acc, hn => by
    rw [List.length_cons] at hn
    obtain ⟨v1, e1⟩ := h a List.mem_cons_self v acc (by omega)
    cases hg : g a with
    | none =>
      refine ⟨v, ?_⟩
      rw [List.map_cons, forL, e1, hg, mapO, hg]
      rfl
    | some b =>
      obtain ⟨v2, e2⟩ := for_orT e g st x n l (fun y hy => h y (List.mem_cons_of_mem _ hy)) v1 (acc ++ [b]) (by rw [List.length_append]; show acc.length + 1 + l.length ≤ n; omega)
      refine ⟨v2, ?_⟩
      rw [List.map_cons, forL, e1, hg, mapO, hg]
      show forL f (l.map e) (st v1 (acc ++ [b])) = _
      rw [e2]
      cases mapO g l with
      | none => rfl
      | some bs =>
        show ret (Fl.nx (st v2 (acc ++ [b] ++ bs))) = ret (Fl.nx (st v2 (acc ++ b :: bs)))
        rw [List.append_assoc]
        rfl
@[simp] theorem e_tx (cf : CF) (s : Sl) (o : Tx) (a b : E) : evE cf (.tx o a b) s = bnd (evE cf a s) fun x => bnd (lift (strD x)) fun x => bnd (evE cf b s) fun y => lift (txD o x y) := by simp only [evE]
@[simp] theorem strD_s (x : Str) : strD (.str x) = some (.str x) := rfl
abbrev NumOf (cf : CF) (i x : Nat) : Prop := ∀ l : Tt, l.length ≤ LIM → cf i [.str (sx l)] = orT x (fun n => ret (.int n)) (numL l)
theorem ev_number_of {cf : CF} (fu : Nat) {x : Nat} {l : Tt} (h : l.length ≤ LIM) : runF cf fu (f_number_of x) [.str (sx l)] = orT x (fun n => ret (.int n)) (numL l) := by
  rw [run_code cf fu (f := f_number_of x) rfl (s0 := [some (.i (.str (sx l)))]) rfl]
  have hl := tx_len h
  match l, h, hl with
  | [], _, hl => simp -implicitDefEqProofs [f_number_of, hl, ne_int, numL]
  | [c], _, hl =>
    have h1 := tx_in c
    by_cases hc : 48 ≤ c ∧ c ≤ 57
    · have h2 := tx_int hc
      have h3 : numL [c] = some ((c - 48 : Nat) : Int) := if_pos hc
      rw [decide_eq_true hc] at h1
      simp -implicitDefEqProofs [f_number_of, hl, ne_int, h1, h2, h3]
    · have h3 : numL [c] = none := if_neg hc
      rw [decide_eq_false hc] at h1
      simp -implicitDefEqProofs [f_number_of, hl, ne_int, h1, h3]
  | a :: b :: r, _, hl =>
    have e : (((a :: b :: r).length : Int) == 1) = false := by
      rw [beq_eq_false_iff_ne]
      simp only [List.length_cons]
      omega
    have hn : numL (a :: b :: r) = none := rfl
    rw [hn]
    generalize ((a :: b :: r).length : Int) = q at *
    simp -implicitDefEqProofs [f_number_of, hl, ne_int, e]
abbrev RdNums (cf : CF) (i x : Nat) : Prop := ∀ l : Tt, l.length + 2 ≤ LIM → cf i [.str (sx l)] = orT x (fun ns => ret (szD ns)) (numsL l)
theorem sp_len (c : Nat) (l : Tt) : ∀ p ∈ spC c l, p.length ≤ l.length := by
  induction l with
  | nil =>
    intro p hp
    have : p = [] := by simpa [spC] using hp
    rw [this]
    exact Nat.le_refl _
  | cons x r ih =>
    obtain ⟨q, qs, e⟩ := spC_cons c r
    intro p hp
    rw [List.length_cons]
    by_cases h : x = c
    · rw [spC, if_pos h] at hp
      rcases List.mem_cons.mp hp with rfl | hp
      · exact Nat.zero_le _
      · exact Nat.le_succ_of_le (ih p hp)
    · rw [spC, if_neg h, e] at hp
      rcases List.mem_cons.mp hp with rfl | hp
      · have := ih q (by rw [e]; exact List.mem_cons_self)
        rw [List.length_cons]
        omega
      · exact Nat.le_succ_of_le (ih p (by rw [e]; exact List.mem_cons_of_mem _ hp))
theorem sp_count (c : Nat) : ∀ l : Tt, (spC c l).length ≤ l.length + 1
  | [] => Nat.le_refl _
  | x :: r => by
    obtain ⟨q, qs, e⟩ := spC_cons c r
    have ih := sp_count c r
    by_cases h : x = c
    · rw [spC, if_pos h, List.length_cons, List.length_cons]
      omega
    · rw [spC, if_neg h, e]
      rw [e, List.length_cons] at ih
      rw [List.length_cons, List.length_cons]
      omega
theorem ev_read_numbers {cf : CF} {i x : Nat} (fu : Nat) (hN : NumOf cf i x) {l : Tt} (h : l.length + 2 ≤ LIM) : runF cf fu (f_read_numbers i) [.str (sx l)] = orT x (fun ns => ret (szD ns)) (numsL l) := by
  rw [run_code cf fu (f := f_read_numbers i) rfl (s0 := [some (.i (.str (sx l))), none]) rfl]
  have hs := tx_split (c := 32) (by decide) h
  rw [← y_sp] at hs
  have hc : evE cf (.compx (.call i (.cons (.var 1) .nil)) (.name 1) (.seq (.tx .split (.pk 0) (.str " "))) [1]) [some (.i (.str (sx l))), none] = orT x (fun ns => ret (.list (ns.map .int))) (numsL l) := by
    refine ev_compx (fun p => .str (sx p)) numL .int x (spC 32 l) ?_ fun p hp => ?_
    · simp -implicitDefEqProofs [hs, seqD]
    · have hp' := hN p (by have := sp_len 32 l p hp; omega)
      simp -implicitDefEqProofs [turnX, wipeA, bindT, hp', orT_bnd]
  simp -implicitDefEqProofs [f_read_numbers, hc, orT_bnd, biD, tupleD, szD]
abbrev RdPrs (cf : CF) (i x : Nat) : Prop := ∀ l : Tt, Chs l → l.length + 2 ≤ LIM → cf i [.str (sx l)] = orT x (fun c => ret (cbD c)) (prsL l)
theorem ev_read_pairs {cf : CF} {i x : Nat} (fu : Nat) (hN : NumOf cf i x) {l : Tt} (hch : Chs l) (h : l.length + 2 ≤ LIM) : runF cf fu (f_read_pairs i x) [.str (sx l)] = orT x (fun c => ret (cbD c)) (prsL l) := by
  rw [run_code cf fu (f := f_read_pairs i x) rfl (s0 := [some (.i (.str (sx l))), none, none]) rfl]
  have hs := tx_split (c := 32) (by decide) h
  rw [← y_sp] at hs
  have hw : ∀ (p : Tt), p ∈ spC 32 l → ∀ (v : Option SV) (acc : Prs), acc.length < LIM → ∃ v', turnF cf fu (.name 2) (.cons (.ife (.or (.cmp .ne (.bi .len (.pk 2)) (.int 3)) (.cmp .ne (.ix (.pk 2) (.int 1)) (.str "="))) (.cons (.raise x) .nil) .nil) (.cons (.app 1 (.tup (.cons (.call i (.cons (.ix (.pk 2) (.int 0)) .nil)) (.cons (.call i (.cons (.ix (.pk 2) (.int 2)) .nil)) .nil)))) .nil)) (.str (sx p)) [some (.i (.str (sx l))), some (.l (acc.map prI)), v] = orT x (fun b => ret (.nx [some (.i (.str (sx l))), some (.l ((acc ++ [b]).map prI)), v'])) (pairL p) := fun p hp v acc hacc => by
    refine ⟨some (.i (.str (sx p))), ?_⟩
    have hpl := sp_len 32 l p hp
    have hpc := hch.sp p hp
    have hl1 := tx_len (a := p) (by omega)
    by_cases h3 : p.length = 3
    · obtain ⟨a, e, b, rfl⟩ : ∃ a e b, p = [a, e, b] := by
        match p, h3 with
        | [a, e, b], _ => exact ⟨a, e, b, rfl⟩
      have i0 := tx_ix (l := [a, e, b]) (k := 0) (c := a) (by omega) rfl
      have i1 := tx_ix (l := [a, e, b]) (k := 1) (c := e) (by omega) rfl
      have i2 := tx_ix (l := [a, e, b]) (k := 2) (c := b) (by omega) rfl
      have n0 := hN [a] (by show 1 ≤ LIM; unfold LIM; omega)
      have n2 := hN [b] (by show 1 ≤ LIM; unfold LIM; omega)
      have he := tx_ne (a := [e]) (b := [61]) (fun c hc => hpc c (by simp at hc; simp [hc])) (by intro c hc; simp at hc; omega)
      rw [← y_eq] at he
      have hpr : acc.map prI ++ [.tuple [.int 0, .int 0]] = acc.map prI ++ [.tuple [.int 0, .int 0]] := rfl
      have hlen : (acc.map prI).length < LIM := by rw [List.length_map]; exact hacc
      have hL2 : (2 : Nat) ≤ LIM := by unfold LIM; omega
      have hst : ∀ q : Int × Int, (acc ++ [q]).map prI = acc.map prI ++ [.tuple [.int q.1, .int q.2]] := fun q => by rw [List.map_append]; rfl
      simp only [hst]
      generalize acc.map prI = ac at *
      by_cases h61 : e = 61
      · subst h61
        rw [decide_eq_true rfl] at he
        simp only [show ((0 : Nat) : Int) = 0 from rfl, show ((1 : Nat) : Int) = 1 from rfl, show ((2 : Nat) : Int) = 2 from rfl] at i0 i1 i2
        cases q0 : numL [a] with
        | none =>
          rw [q0] at n0
          simp -implicitDefEqProofs [turnF, bindT, hl1, ne_int, i0, i1, he, n0, pairL, q0]
        | some y0 =>
          rw [q0] at n0
          cases q2 : numL [b] with
          | none =>
            rw [q2] at n2
            simp -implicitDefEqProofs [turnF, bindT, hl1, ne_int, i0, i1, i2, he, n0, n2, pairL, q0, q2]
          | some y2 =>
            rw [q2] at n2
            simp -implicitDefEqProofs [turnF, bindT, hl1, ne_int, i0, i1, i2, he, n0, n2, pairL, q0, q2, hlen, hL2]
      · have hpn : pairL [a, e, b] = none := if_neg h61
        have hd : decide ([e] = [61]) = false := decide_eq_false (by simpa using h61)
        rw [hd] at he
        simp only [show ((1 : Nat) : Int) = 1 from rfl] at i1
        simp -implicitDefEqProofs [turnF, bindT, hl1, ne_int, i1, he, hpn]
    · have hpn : pairL p = none := by
        unfold pairL
        split
        · exact absurd rfl h3
        · rfl
      have e3 : ((p.length : Int) == 3) = false := by
        rw [beq_eq_false_iff_ne]
        omega
      simp -implicitDefEqProofs [turnF, bindT, hl1, ne_int, e3, hpn]
  obtain ⟨v', ef⟩ := for_orT (f := turnF cf fu (.name 2) (.cons (.ife (.or (.cmp .ne (.bi .len (.pk 2)) (.int 3)) (.cmp .ne (.ix (.pk 2) (.int 1)) (.str "="))) (.cons (.raise x) .nil) .nil) (.cons (.app 1 (.tup (.cons (.call i (.cons (.ix (.pk 2) (.int 0)) .nil)) (.cons (.call i (.cons (.ix (.pk 2) (.int 2)) .nil)) .nil)))) .nil))) (fun p => .str (sx p)) pairL (fun v acc => [some (.i (.str (sx l))), some (.l (acc.map prI)), v]) x LIM (spC 32 l) hw none [] (by have := sp_count 32 l; show 0 + _ ≤ _; omega)
  have ef : forL (turnF cf fu (.name 2) (.cons (.ife (.or (.cmp .ne (.bi .len (.pk 2)) (.int 3)) (.cmp .ne (.ix (.pk 2) (.int 1)) (.str "="))) (.cons (.raise x) .nil) .nil) (.cons (.app 1 (.tup (.cons (.call i (.cons (.ix (.pk 2) (.int 0)) .nil)) (.cons (.call i (.cons (.ix (.pk 2) (.int 2)) .nil)) .nil)))) .nil))) ((spC 32 l).map fun p => .str (sx p)) [some (.i (.str (sx l))), some (.l []), none] = orT x (fun bs => ret (.nx [some (.i (.str (sx l))), some (.l (bs.map prI)), v'])) (prsL l) := ef
  have h0 : (0 : Nat) ≤ LIM := Nat.zero_le _
  simp -implicitDefEqProofs [f_read_pairs, mutS, hs, seqD, ef, orT_bnd, biD, tupleD, h0]
  rfl
def isTxD : D → Bool
  | .str _ => true
  | _ => false
abbrev ChkTx (cf : CF) (i x : Nat) : Prop := ∀ d, Pl d → cf i [d] = if isTxD d = true then ret .none else thr x
theorem ev_check_text {cf : CF} (fu : Nat) {x : Nat} {d : D} (h : Pl d) : runF cf fu (f_check_text x) [d] = if isTxD d = true then ret .none else thr x := by
  rw [run_code cf fu (f := f_check_text x) rfl (s0 := [some (.i d)]) rfl]
  cases d with
  | dict kvs => exact (pl_dict h).elim
  | _ => simp -implicitDefEqProofs [f_check_text, isiD, truD, isTxD]
abbrev RowsOf (cf : CF) (i x : Nat) : Prop := (∀ l : Tt, Chs l → l.length + 2 ≤ LIM → cf i [.str (sx l)] = orT x (fun rs => ret (.list (rs.map fun r => .str (sx r)))) (rowsL l)) ∧ ∀ d, Pl d → isTxD d = false → cf i [d] = thr x
theorem cut_last (xs : List D) (h : xs ≠ []) : cutD xs none (some (-1)) = xs.dropLast := by
  have hp : 0 < xs.length := List.length_pos_iff.mpr h
  show (xs.drop 0).take (((-1) + (xs.length : Int)).toNat - 0) = _
  rw [List.drop_zero, Nat.sub_zero, List.dropLast_eq_take]
  congr 1
  omega
theorem ev_rows_of {cf : CF} {i x : Nat} (fu : Nat) (hC : ChkTx cf i x) {l : Tt} (hch : Chs l) (h : l.length + 2 ≤ LIM) : runF cf fu (f_rows_of i x) [.str (sx l)] = orT x (fun rs => ret (.list (rs.map fun r => .str (sx r)))) (rowsL l) := by
  rw [run_code cf fu (f := f_rows_of i x) rfl (s0 := [some (.i (.str (sx l)))]) rfl]
  have hs := tx_split (c := 10) (by decide) h
  rw [← y_nl] at hs
  have hc : cf i [.str (sx l)] = ret .none := (hC (.str (sx l)) (pl_sx hch)).trans (if_pos rfl)
  have hn := tx_ne hch (b := []) (fun c hc => nomatch hc)
  rw [← y_nil] at hn
  have hsl : slD (.list ((spC 10 l).map fun p => .str (sx p))) none (some (-1)) = some (.list ((spC 10 l).dropLast.map fun p => .str (sx p))) := by
    show some (PyData.list (cutD _ none (some (-1)))) = _
    rw [cut_last _ (by simpa using spC_ne 10 l), List.map_dropLast]
  by_cases h0 : l = []
  · subst h0
    have hr : rowsL [] = some [] := rfl
    rw [decide_eq_true rfl] at hn
    have hsl' : slD (.list ((spC 10 []).map fun p => .str (sx p))) none (some (-1)) = some (.list []) := hsl
    simp -implicitDefEqProofs [f_rows_of, intD, hc, hn, hs, hsl', hr]
  · rw [decide_eq_false h0] at hn
    have hg : l.getLast? = some (l.getLast h0) := List.getLast?_eq_some_getLast h0
    have hm : l.getLast h0 ∈ l := List.getLast_mem h0
    generalize l.getLast h0 = z at hg hm
    have hi := tx_last (by omega) hg
    have he := tx_ne (a := [z]) (b := [10]) (fun c hc' => hch c (by rw [List.mem_singleton.mp hc']; exact hm)) (by intro c hc'; rw [List.mem_singleton.mp hc']; decide)
    rw [← y_nl] at he
    by_cases hz : z = 10
    · have hr : rowsL l = some (spC 10 l).dropLast := if_neg fun q => q.2 (by rw [hg, hz])
      rw [decide_eq_true (by rw [hz])] at he
      simp -implicitDefEqProofs [f_rows_of, intD, hc, hn, hi, he, hs, hsl, hr]
    · have hr : rowsL l = none := if_pos ⟨h0, by rw [hg]; simpa using hz⟩
      rw [decide_eq_false (by simpa using hz)] at he
      simp -implicitDefEqProofs [f_rows_of, intD, hc, hn, hi, he, hr]
theorem ev_rows_ofX {cf : CF} {i x : Nat} (fu : Nat) (hC : ChkTx cf i x) {d : D} (h : Pl d) (hd : isTxD d = false) : runF cf fu (f_rows_of i x) [d] = thr x := by
  rw [run_code cf fu (f := f_rows_of i x) rfl (s0 := [some (.i d)]) rfl]
  have hc := hC d h
  rw [hd] at hc
  simp -implicitDefEqProofs [f_rows_of, hc]
end Ev

set_option Elab.async false
set_option linter.all false
set_option maxRecDepth 100000
set_option autoImplicit false
namespace Ev
open PySem
theorem pl_strs {ps : List Tt} (h : ∀ p ∈ ps, Chs p) : Pl (.list (ps.map fun p => .str (sx p))) := pl_lst (n := 0) (by decide) fun x hx => by
  obtain ⟨p, hp, rfl⟩ := List.mem_map.mp hx
  exact ⟨pl_sx (h p hp), Nat.le_refl _⟩
theorem eqv_lnil (xs : List D) : PyData.eqv (.list xs) (.list []) = xs.isEmpty := by
  cases xs <;> simp [PyData.eqv, PyData.eqvAll]
theorem chs_kSizes : Chs kSizes := by unfold Chs; decide
theorem chs_kNot : Chs kNot := by unfold Chs; decide
theorem chs_kFail : Chs kFail := by unfold Chs; decide
theorem chs_kPass : Chs kPass := by unfold Chs; decide
theorem ix_first (x : D) (xs : List D) : ixD (.list (x :: xs)) (.int 0) = some x := by
  have e : ixI (x :: xs).length 0 = some 0 := by
    unfold ixI
    rw [if_pos (by decide), if_pos (by simp only [List.length_cons]; omega)]
    rfl
  show ((ixI (x :: xs).length 0).bind fun j => (x :: xs)[j]?) = _
  rw [e]
  rfl
def cmbL (ns : List Int) (l : Tt) : Option Prs := (prsL l).bind fun c => if isCombD ns (cbD c) = true then some c else none
structure PCmb (cf : CF) (i x : Nat) : Prop where
  ok : ∀ ns cs l, isModelD (mdD ns cs) = true → Chs l → l.length + 2 ≤ LIM → cf i [mdD ns cs, .str (sx l)] = orT x (fun c => ret (cbD c)) (cmbL ns l)
  ns : ∀ ns cs d, isModelD (mdD ns cs) = true → Pl d → isTxD d = false → cf i [mdD ns cs, d] = thr x
section
variable {cf : CF} {fu i : Nat}
theorem p_cmb {im it ic ir x xm : Nat} (hM : CheckOk cf im xm) (hT : ChkTx cf it x) (hC : CombOk cf ic) (hR : RdPrs cf ir x) {ns : List Int} {cs : List Prs} {l : Tt} (h0 : isModelD (mdD ns cs) = true) (h1 : Chs l) (h2 : l.length + 2 ≤ LIM) :
    runF cf fu (f_parse_combination im it ic ir x) [mdD ns cs, .str (sx l)] = orT x (fun c => ret (cbD c)) (cmbL ns l) := by
  rw [run_code cf fu (f := f_parse_combination im it ic ir x) rfl (s0 := [some (.i (mdD ns cs)), some (.i (.str (sx l))), none]) rfl]
  have e1 : cf im [mdD ns cs] = ret .none := (hM _ (pl_md ns cs)).trans (if_pos h0)
  have e2 : cf it [.str (sx l)] = ret .none := (hT _ (pl_sx h1)).trans (if_pos rfl)
  have e3 := hR l h1 h2
  have e4 : ixD (mdD ns cs) (.int 0) = some (szD ns) := rfl
  have e5 := fun c => hC ns (cbD c) (pl_cb c)
  generalize mdD ns cs = md at *
  generalize PyData.str (sx l) = tx at *
  cases hp : prsL l with
  | none =>
    rw [hp] at e3
    have hq : cmbL ns l = none := by unfold cmbL; rw [hp]; rfl
    simp -implicitDefEqProofs [f_parse_combination, e1, e2, e3, hq]
  | some c =>
    rw [hp] at e3
    have e5 := e5 c
    have hq : cmbL ns l = if isCombD ns (cbD c) = true then some c else none := by unfold cmbL; rw [hp]; rfl
    rw [hq]
    cases hb : isCombD ns (cbD c) with
    | true =>
      rw [hb] at e5
      simp -implicitDefEqProofs [f_parse_combination, bindT, e1, e2, e3, e4, e5, truD]
    | false =>
      rw [hb] at e5
      simp -implicitDefEqProofs [f_parse_combination, bindT, e1, e2, e3, e4, e5, truD]
theorem p_cmbX {im it ic ir x xm : Nat} (hM : CheckOk cf im xm) (hT : ChkTx cf it x) {ns : List Int} {cs : List Prs} {d : D} (h0 : isModelD (mdD ns cs) = true) (h1 : Pl d) (h2 : isTxD d = false) : runF cf fu (f_parse_combination im it ic ir x) [mdD ns cs, d] = thr x := by
  rw [run_code cf fu (f := f_parse_combination im it ic ir x) rfl (s0 := [some (.i (mdD ns cs)), some (.i d), none]) rfl]
  have e1 : cf im [mdD ns cs] = ret .none := (hM _ (pl_md ns cs)).trans (if_pos h0)
  have e2 : cf it [d] = thr x := (hT _ h1).trans (if_neg (by rw [h2]; exact Bool.false_ne_true))
  generalize mdD ns cs = md at *
  simp -implicitDefEqProofs [f_parse_combination, e1, e2]
theorem parse_cmb_ok {im it ic ir x xm : Nat} (hM : CheckOk cf im xm) (hT : ChkTx cf it x) (hC : CombOk cf ic) (hR : RdPrs cf ir x) {cf' : CF} {j : Nat} (he : ∀ ds, cf' j ds = runF cf fu (f_parse_combination im it ic ir x) ds) : PCmb cf' j x :=
  ⟨fun ns cs l h0 h1 h2 => (he _).trans (p_cmb hM hT hC hR h0 h1 h2), fun ns cs d h0 h1 h2 => (he _).trans (p_cmbX hM hT h0 h1 h2)⟩
def mdR : List Tt → Option (List Int × List Prs)
  | [] => none
  | r :: rs => if (decide (r.take 6 = kSizes) && rs.all fun q => decide (q.take 4 = kNot)) = true then (match numsL (r.drop 6), mapO (fun q => prsL (q.drop 4)) rs with
    | some ns, some cs => if isModelD (mdD ns cs) = true then some (ns, cs) else none
    | _, _ => none) else none
def mdL (l : Tt) : Option (List Int × List Prs) := (rowsL l).bind mdR
structure PMdl (cf : CF) (i x : Nat) : Prop where
  ok : ∀ l, Chs l → l.length + 2 ≤ LIM → cf i [.str (sx l)] = orT x (fun m => ret (mdD m.1 m.2)) (mdL l)
  ns : ∀ d, Pl d → isTxD d = false → cf i [d] = thr x
theorem rows_sub {l : Tt} {rs : List Tt} (h : rowsL l = some rs) : ∀ r ∈ rs, r.length ≤ l.length ∧ ∀ c ∈ r, c ∈ l := by
  unfold rowsL at h
  split at h
  · cases h
  · cases h
    intro r hr
    have := (List.dropLast_sublist _).mem hr
    exact ⟨sp_len 10 l r this, sp_mem 10 l r this⟩
theorem rows_count {l : Tt} {rs : List Tt} (h : rowsL l = some rs) : rs.length ≤ l.length + 1 := by
  unfold rowsL at h
  split at h
  · cases h
  · cases h
    have := sp_count 10 l
    rw [List.length_dropLast]
    omega
theorem p_mdl {im in_ ip ir x : Nat} (hM : ModelOk cf im) (hN : RdNums cf in_ x) (hP : RdPrs cf ip x) (hR : RowsOf cf ir x) {l : Tt} (h1 : Chs l) (h2 : l.length + 2 ≤ LIM) :
    runF cf fu (f_parse_model im in_ ip ir x) [.str (sx l)] = orT x (fun m => ret (mdD m.1 m.2)) (mdL l) := by
  rw [run_code cf fu (f := f_parse_model im in_ ip ir x) rfl (s0 := [some (.i (.str (sx l))), none, none, none]) rfl]
  have e0 := hR.1 l h1 h2
  cases hr : rowsL l with
  | none =>
    rw [hr] at e0
    have hq : mdL l = none := by unfold mdL; rw [hr]; rfl
    simp -implicitDefEqProofs [f_parse_model, e0, hq]
  | some rows =>
    rw [hr] at e0
    have hq : mdL l = mdR rows := by unfold mdL; rw [hr]; rfl
    have hsub := rows_sub hr
    have hpl := pl_strs (ps := rows) fun p hp c hc => h1 c ((hsub p hp).2 c hc)
    have heq : (opD .eq (.list (rows.map fun p => .str (sx p))) (.list [])).bind boolD = some rows.isEmpty := by
      rw [op_eq hpl pl_lnil, eqv_lnil]
      cases rows <;> rfl
    have z0 : (0 : Nat) ≤ LIM := Nat.zero_le _
    rw [hq]
    match rows, e0, hsub, heq with
    | [], e0, _, heq =>
      have e0 : cf ir [.str (sx l)] = ret (.list []) := e0
      have heq : (opD .eq (.list []) (.list [])).bind boolD = some true := heq
      simp -implicitDefEqProofs [f_parse_model, bindT, e0, heq, z0, mdR]
    | r :: rs, e0, hsub, heq =>
      have hr0 := hsub r List.mem_cons_self
      have hrs := fun q (hq : q ∈ rs) => hsub q (List.mem_cons_of_mem _ hq)
      have i0 : ixD (.list ((r :: rs).map fun p => .str (sx p))) (.int 0) = some (.str (sx r)) := ix_first _ _
      have i1 : slD (.list ((r :: rs).map fun p => .str (sx p))) (some 1) none = some (.list (rs.map fun p => .str (sx p))) := by
        show some (PyData.list (cutD _ (some 1) none)) = _
        rw [cut1]
        rfl
      have t6 := tx_to (l := r) (by omega) 6
      have d6 := tx_from (l := r) (by omega) 6
      have hrc : Chs r := fun c hc => h1 c (hr0.2 c hc)
      have n6 := tx_ne (hrc.take 6) chs_kSizes
      rw [← y_sizes] at n6
      have rn := hN (r.drop 6) (by rw [List.length_drop]; omega)
      have e0 : cf ir [.str (sx l)] = ret (.list ((r :: rs).map fun p => .str (sx p))) := e0
      have heq : (opD .eq (.list ((r :: rs).map fun p => .str (sx p))) (.list [])).bind boolD = some false := heq
      generalize PyData.list ((r :: rs).map fun p => .str (sx p)) = V at *
      have c1 : evE cf (.comp (.op .eq (.sl (.pk 3) .no (.so (.int 4))) (.str "not ")) (.name 3) (.seq (.sl (.pk 1) (.so (.int 1)) .no)) .yes [3]) [some (.i (.str (sx l))), some (.i V), none, none] = ret (.list (rs.map fun q => .bool (decide (q.take 4 = kNot)))) := by
        refine ev_compM (fun q => .str (sx q)) rs _ (by simp -implicitDefEqProofs [intD, i1, seqD]) fun q hq => ?_
        have t4 := tx_to (l := q) (by have := hrs q hq; omega) 4
        have n4 := tx_eq (Chs.take (fun c hc => h1 c ((hrs q hq).2 c hc)) 4) chs_kNot
        rw [← y_not] at n4
        simp only [show ((4 : Nat) : Int) = 4 from rfl] at t4
        simp -implicitDefEqProofs [turnC, wipeA, bindT, intD, t4, n4]
      have c2 : evE cf (.compx (.call ip (.cons (.sl (.pk 3) (.so (.int 4)) .no) .nil)) (.name 3) (.seq (.sl (.pk 1) (.so (.int 1)) .no)) [3]) [some (.i (.str (sx l))), some (.i V), none, none] = orT x (fun bs => ret (.list (bs.map cbD))) (mapO (fun q => prsL (q.drop 4)) rs) := by
        refine ev_compx (fun q => .str (sx q)) (fun q => prsL (q.drop 4)) cbD x rs (by simp -implicitDefEqProofs [intD, i1, seqD]) fun q hq => ?_
        have t4 := tx_from (l := q) (by have := hrs q hq; omega) 4
        have p4 := hP (q.drop 4) (Chs.drop (fun c hc => h1 c ((hrs q hq).2 c hc)) 4) (by have := hrs q hq; rw [List.length_drop]; omega)
        simp only [show ((4 : Nat) : Int) = 4 from rfl] at t4
        simp -implicitDefEqProofs [turnX, wipeA, bindT, intD, t4, p4, orT_bnd]
      have hall : biD .all (.list (rs.map fun q => .bool (decide (q.take 4 = kNot)))) = some (.bool (rs.all fun q => decide (q.take 4 = kNot))) := allD_map _ rs
      simp only [show ((6 : Nat) : Int) = 6 from rfl] at t6 d6
      cases hb1 : decide (r.take 6 = kSizes) with
      | false =>
        rw [hb1] at n6
        have hq : mdR (r :: rs) = none := by rw [mdR, hb1]; rfl
        simp -implicitDefEqProofs [f_parse_model, bindT, intD, e0, heq, z0, i0, t6, n6, hq]
      | true =>
        rw [hb1] at n6
        cases hb2 : (rs.all fun q => decide (q.take 4 = kNot)) with
        | false =>
          rw [hb2] at hall
          have hq : mdR (r :: rs) = none := by rw [mdR, hb1, hb2]; rfl
          simp -implicitDefEqProofs [f_parse_model, bindT, intD, e0, heq, z0, i0, t6, n6, c1, hall, truD, hq]
        | true =>
          rw [hb2] at hall
          cases q1 : numsL (r.drop 6) with
          | none =>
            rw [q1] at rn
            have hq : mdR (r :: rs) = none := by rw [mdR, hb1, hb2, q1]; rfl
            simp -implicitDefEqProofs [f_parse_model, bindT, intD, e0, heq, z0, i0, t6, n6, c1, hall, truD, d6, rn, hq]
          | some ns =>
            rw [q1] at rn
            cases q2 : mapO (fun q => prsL (q.drop 4)) rs with
            | none =>
              rw [q2] at c2
              have hq : mdR (r :: rs) = none := by rw [mdR, hb1, hb2, q1, q2]; rfl
              simp -implicitDefEqProofs [f_parse_model, bindT, intD, e0, heq, z0, i0, t6, n6, c1, hall, truD, d6, rn, c2, hq]
            | some cs =>
              rw [q2] at c2
              have hq : mdR (r :: rs) = if isModelD (mdD ns cs) = true then some (ns, cs) else none := by rw [mdR, hb1, hb2, q1, q2]; rfl
              have m1 := hM (mdD ns cs) (pl_md ns cs)
              have m2 : PyData.tuple [szD ns, .tuple (cs.map cbD)] = mdD ns cs := rfl
              have l2 : (2 : Nat) ≤ LIM := by unfold LIM; omega
              have tp : biD .tuple (.list (cs.map cbD)) = some (.tuple (cs.map cbD)) := rfl
              rw [hq]
              cases hm : isModelD (mdD ns cs) with
              | true =>
                rw [hm] at m1
                rw [if_pos rfl, orT_some]
                show _ = ret (mdD ns cs)
                generalize mdD ns cs = md at *
                simp -implicitDefEqProofs [f_parse_model, bindT, intD, e0, heq, z0, i0, t6, n6, c1, hall, truD, d6, rn, c2, tp, l2, m1, m2]
              | false =>
                rw [hm] at m1
                rw [if_neg Bool.false_ne_true, orT_none]
                generalize mdD ns cs = md at *
                simp -implicitDefEqProofs [f_parse_model, bindT, intD, e0, heq, z0, i0, t6, n6, c1, hall, truD, d6, rn, c2, tp, l2, m1, m2]
theorem p_mdlX {im in_ ip ir x : Nat} (hR : RowsOf cf ir x) {d : D} (h1 : Pl d) (h2 : isTxD d = false) : runF cf fu (f_parse_model im in_ ip ir x) [d] = thr x := by
  rw [run_code cf fu (f := f_parse_model im in_ ip ir x) rfl (s0 := [some (.i d), none, none, none]) rfl]
  have e0 := hR.2 d h1 h2
  simp -implicitDefEqProofs [f_parse_model, e0]
theorem parse_mdl_ok {im in_ ip ir x : Nat} (hM : ModelOk cf im) (hN : RdNums cf in_ x) (hP : RdPrs cf ip x) (hR : RowsOf cf ir x) {cf' : CF} {j : Nat} (he : ∀ ds, cf' j ds = runF cf fu (f_parse_model im in_ ip ir x) ds) : PMdl cf' j x :=
  ⟨fun l h1 h2 => (he _).trans (p_mdl hM hN hP hR h1 h2), fun d h1 h2 => (he _).trans (p_mdlX hR h1 h2)⟩
theorem pl_rsd (r : List Int × Bool) : Pl (rsD r) := pl_tuple (xs := [rsD r]) (pl_ress [r]) _ List.mem_cons_self
def rowR (q : Tt) : Option (List Int × Bool) := if (decide (kFail = q.take 5) || decide (kPass = q.take 5)) = true then (numsL (q.drop 5)).map fun ns => (ns, decide (q.take 5 = kFail)) else none
def rssL (ns : List Int) (cs : List Prs) (l : Tt) : Option Rs := (rowsL l).bind fun rs => (mapO rowR rs).bind fun rr => if (decide (rr.length ≤ 20) && rr.all fun r => isResD ns cs (rsD r)) = true then some rr else none
structure PRes (cf : CF) (i x xm : Nat) : Prop where
  ok : ∀ ns cs l, MdC ns cs → Chs l → l.length + 2 ≤ LIM → cf i [mdD ns cs, .str (sx l)] = orT x (fun rs => ret (ressD rs)) (rssL ns cs l)
  ns : ∀ ns cs d, MdC ns cs → Pl d → isTxD d = false → cf i [mdD ns cs, d] = thr x
  md : ∀ d u, Pl d → isModelD d = false → cf i [d, u] = thr xm
theorem frz_l (s : Sl) (i : Nat) (xs : List D) (h : s[i]? = some (some (.l xs))) : frzS s i = some (s.set i (some (.i (.list xs)))) := by
  unfold frzS
  rw [h]
theorem p_res {im it in_ ir x xm : Nat} (hM : CheckOk cf im xm) (hI : ResOk cf it) (hN : RdNums cf in_ x) (hR : RowsOf cf ir x) {ns : List Int} {cs : List Prs} {l : Tt} (h0 : MdC ns cs) (h1 : Chs l) (h2 : l.length + 2 ≤ LIM) :
    runF cf fu (f_parse_results im it in_ ir x) [mdD ns cs, .str (sx l)] = orT x (fun rs => ret (ressD rs)) (rssL ns cs l) := by
  rw [run_code cf fu (f := f_parse_results im it in_ ir x) rfl (s0 := [some (.i (mdD ns cs)), some (.i (.str (sx l))), none, none, none]) rfl]
  have e1 : cf im [mdD ns cs] = ret .none := (hM _ (pl_md ns cs)).trans (if_pos h0.mod)
  have e0 := hR.1 l h1 h2
  have hI' := fun r => hI ns cs (rsD r) h0.cmb (pl_rsd r)
  generalize mdD ns cs = md at *
  have z0 : (0 : Nat) ≤ LIM := Nat.zero_le _
  cases hr : rowsL l with
  | none =>
    rw [hr] at e0
    have hq : rssL ns cs l = none := by unfold rssL; rw [hr]; rfl
    simp -implicitDefEqProofs [f_parse_results, mutS, z0, e1, e0, hq]
  | some rows =>
    rw [hr] at e0
    have hsub := rows_sub hr
    have hcnt := rows_count hr
    have e0 : cf ir [.str (sx l)] = ret (.list (rows.map fun p => .str (sx p))) := e0
    generalize PyData.str (sx l) = TX at *
    have hw : ∀ q ∈ rows, ∀ (v : Option SV) (acc : Rs), acc.length < LIM → ∃ v', turnF cf fu (.name 3) (.cons (.ife (.cmp .notin (.sl (.pk 3) .no (.so (.int 5))) (.tup (.cons (.str "fail ") (.cons (.str "pass ") .nil)))) (.cons (.raise x) .nil) .nil) (.cons (.app 2 (.tup (.cons (.call in_ (.cons (.sl (.pk 3) (.so (.int 5)) .no) .nil)) (.cons (.op .eq (.sl (.pk 3) .no (.so (.int 5))) (.str "fail ")) .nil)))) .nil)) (.str (sx q)) [some (.i md), some (.i TX), some (.l (acc.map rsD)), v, none] = orT x (fun b => ret (.nx [some (.i md), some (.i TX), some (.l ((acc ++ [b]).map rsD)), v', none])) (rowR q) := fun q hq v acc hacc => by
      refine ⟨some (.i (.str (sx q))), ?_⟩
      have hql := (hsub q hq).1
      have hqc : Chs q := fun c hc => h1 c ((hsub q hq).2 c hc)
      have t5 := tx_to (l := q) (by omega) 5
      have d5 := tx_from (l := q) (by omega) 5
      simp only [show ((5 : Nat) : Int) = 5 from rfl] at t5 d5
      have n5 := tx_eq (hqc.take 5) chs_kFail
      have i5 : opD .notin (.str (sx (q.take 5))) (.tuple [.str (sx kFail), .str (sx kPass)]) = some (.bool (!(decide (kFail = q.take 5) || decide (kPass = q.take 5)))) := by
        have p1 : ok2 (.str (sx (q.take 5))) = true := pl_sx (hqc.take 5)
        have p2 : ok2 (.tuple [.str (sx kFail), .str (sx kPass)]) = true := pl_tup (n := 0) (by decide) fun y hy => by
          simp only [List.mem_cons, List.not_mem_nil, or_false] at hy
          rcases hy with rfl | rfl
          · exact ⟨pl_sx chs_kFail, Nat.le_refl _⟩
          · exact ⟨pl_sx chs_kPass, Nat.le_refl _⟩
        show ((if ok2 (.str (sx (q.take 5))) && ok2 (.tuple [.str (sx kFail), .str (sx kPass)]) then some ([PyData.str (sx kFail), .str (sx kPass)].any fun z => PyData.eqv z (.str (sx (q.take 5)))) else none).map fun b => PyData.bool (!b)) = _
        rw [p1, p2]
        simp only [Bool.and_self, if_true, List.any_cons, List.any_nil, Bool.or_false, eqv_str, Option.map_some]
      rw [← y_fail] at n5
      rw [← y_fail, ← y_pass] at i5
      have rn := hN (q.drop 5) (by rw [List.length_drop]; omega)
      have l2 : (2 : Nat) ≤ LIM := by unfold LIM; omega
      have hlen : (acc.map rsD).length < LIM := by rw [List.length_map]; exact hacc
      have hst : ∀ r : List Int × Bool, (acc ++ [r]).map rsD = acc.map rsD ++ [.tuple [szD r.1, .bool r.2]] := fun r => by rw [List.map_append]; rfl
      simp only [hst]
      generalize acc.map rsD = ac at *
      cases hb : (decide (kFail = q.take 5) || decide (kPass = q.take 5)) with
      | false =>
        rw [hb] at i5
        have hq : rowR q = none := by unfold rowR; rw [hb]; rfl
        simp -implicitDefEqProofs [turnF, bindT, intD, t5, i5, l2, hq]
      | true =>
        rw [hb] at i5
        have hq : rowR q = (numsL (q.drop 5)).map fun ns => (ns, decide (q.take 5 = kFail)) := by unfold rowR; rw [hb]; rfl
        rw [hq]
        generalize decide (q.take 5 = kFail) = bf at *
        cases q1 : numsL (q.drop 5) with
        | none =>
          rw [q1] at rn
          simp -implicitDefEqProofs [turnF, bindT, intD, t5, i5, l2, d5, rn]
        | some us =>
          rw [q1] at rn
          simp -implicitDefEqProofs [turnF, bindT, intD, t5, i5, l2, d5, rn, n5, hlen]
    obtain ⟨v', ef⟩ := for_orT (f := turnF cf fu (.name 3) (.cons (.ife (.cmp .notin (.sl (.pk 3) .no (.so (.int 5))) (.tup (.cons (.str "fail ") (.cons (.str "pass ") .nil)))) (.cons (.raise x) .nil) .nil) (.cons (.app 2 (.tup (.cons (.call in_ (.cons (.sl (.pk 3) (.so (.int 5)) .no) .nil)) (.cons (.op .eq (.sl (.pk 3) .no (.so (.int 5))) (.str "fail ")) .nil)))) .nil))) (fun q => .str (sx q)) rowR (fun v acc => [some (.i md), some (.i TX), some (.l (acc.map rsD)), v, none]) x LIM rows hw none [] (by show 0 + _ ≤ _; omega)
    have ef : forL (turnF cf fu (.name 3) (.cons (.ife (.cmp .notin (.sl (.pk 3) .no (.so (.int 5))) (.tup (.cons (.str "fail ") (.cons (.str "pass ") .nil)))) (.cons (.raise x) .nil) .nil) (.cons (.app 2 (.tup (.cons (.call in_ (.cons (.sl (.pk 3) (.so (.int 5)) .no) .nil)) (.cons (.op .eq (.sl (.pk 3) .no (.so (.int 5))) (.str "fail ")) .nil)))) .nil))) (rows.map fun q => .str (sx q)) [some (.i md), some (.i TX), some (.l []), none, none] = orT x (fun bs => ret (.nx [some (.i md), some (.i TX), some (.l (bs.map rsD)), v', none])) (mapO rowR rows) := ef
    cases hm : mapO rowR rows with
    | none =>
      rw [hm] at ef
      have hq : rssL ns cs l = none := by unfold rssL; rw [hr, Option.bind_some, hm]; rfl
      simp -implicitDefEqProofs [f_parse_results, mutS, z0, e1, e0, seqD, ef, hq]
    | some rr =>
      rw [hm] at ef
      have hq : rssL ns cs l = if (decide (rr.length ≤ 20) && rr.all fun r => isResD ns cs (rsD r)) = true then some rr else none := by unfold rssL; rw [hr, Option.bind_some, hm]; rfl
      have hln : biD .len (.list (rr.map rsD)) = some (.int rr.length) := by
        show some (PyData.int ((rr.map rsD).length : Int)) = _
        rw [List.length_map]
      have tp : biD .tuple (.list (rr.map rsD)) = some (ressD rr) := rfl
      have c1 : evE cf (.comp (.call it (.cons (.var 0) (.cons (.var 4) .nil))) (.name 4) (.seq (.var 2)) .yes [4]) [some (.i md), some (.i TX), some (.i (.list (rr.map rsD))), v', none] = ret (.list (rr.map fun r => .bool (isResD ns cs (rsD r)))) := by
        refine ev_compM rsD rr _ (by simp -implicitDefEqProofs [seqD]) fun r hr => ?_
        have := hI' r
        generalize rsD r = rd at *
        simp -implicitDefEqProofs [turnC, wipeA, bindT, this]
      have hall : biD .all (.list (rr.map fun r => .bool (isResD ns cs (rsD r)))) = some (.bool (rr.all fun r => isResD ns cs (rsD r))) := allD_map _ rr
      have hfz := frz_l [some (.i md), some (.i TX), some (.l (rr.map rsD)), v', none] 2 (rr.map rsD) rfl
      have hfz : frzS [some (.i md), some (.i TX), some (.l (rr.map rsD)), v', none] 2 = some [some (.i md), some (.i TX), some (.i (.list (rr.map rsD))), v', none] := hfz
      rw [hq]
      generalize PyData.list (rr.map rsD) = RR at *
      cases hb1 : decide (rr.length ≤ 20) with
      | false =>
        have hg : 20 < (rr.length : Int) := by have := of_decide_eq_false hb1; omega
        simp -implicitDefEqProofs [f_parse_results, mutS, z0, e1, e0, seqD, ef, hfz, hln, hg]
      | true =>
        have hg : ¬ 20 < (rr.length : Int) := by have := of_decide_eq_true hb1; omega
        cases hb2 : (rr.all fun r => isResD ns cs (rsD r)) with
        | false =>
          rw [hb2] at hall
          simp -implicitDefEqProofs [f_parse_results, mutS, z0, e1, e0, seqD, ef, hfz, hln, hg, c1, hall, truD]
        | true =>
          rw [hb2] at hall
          simp -implicitDefEqProofs [f_parse_results, mutS, z0, e1, e0, seqD, ef, hfz, hln, hg, c1, hall, truD, tp]
theorem p_resX {im it in_ ir x xm : Nat} (hM : CheckOk cf im xm) (hR : RowsOf cf ir x) {ns : List Int} {cs : List Prs} {d : D} (h0 : MdC ns cs) (h1 : Pl d) (h2 : isTxD d = false) : runF cf fu (f_parse_results im it in_ ir x) [mdD ns cs, d] = thr x := by
  rw [run_code cf fu (f := f_parse_results im it in_ ir x) rfl (s0 := [some (.i (mdD ns cs)), some (.i d), none, none, none]) rfl]
  have e1 : cf im [mdD ns cs] = ret .none := (hM _ (pl_md ns cs)).trans (if_pos h0.mod)
  have e0 := hR.2 d h1 h2
  generalize mdD ns cs = md at *
  have z0 : (0 : Nat) ≤ LIM := Nat.zero_le _
  simp -implicitDefEqProofs [f_parse_results, mutS, z0, e1, e0]
theorem p_resM {im it in_ ir x xm : Nat} (hM : CheckOk cf im xm) {d u : D} (h1 : Pl d) (h2 : isModelD d = false) : runF cf fu (f_parse_results im it in_ ir x) [d, u] = thr xm := by
  rw [run_code cf fu (f := f_parse_results im it in_ ir x) rfl (s0 := [some (.i d), some (.i u), none, none, none]) rfl]
  have e1 : cf im [d] = thr xm := (hM _ h1).trans (if_neg (by rw [h2]; exact Bool.false_ne_true))
  simp -implicitDefEqProofs [f_parse_results, e1]
theorem parse_res_ok {im it in_ ir x xm : Nat} (hM : CheckOk cf im xm) (hI : ResOk cf it) (hN : RdNums cf in_ x) (hR : RowsOf cf ir x) {cf' : CF} {j : Nat} (he : ∀ ds, cf' j ds = runF cf fu (f_parse_results im it in_ ir x) ds) : PRes cf' j x xm :=
  ⟨fun ns cs l h0 h1 h2 => (he _).trans (p_res hM hI hN hR h0 h1 h2), fun ns cs d h0 h1 h2 => (he _).trans (p_resX hM hR h0 h1 h2), fun d u h1 h2 => (he _).trans (p_resM hM h1 h2)⟩
end
end Ev

set_option Elab.async false
set_option linter.all false
set_option maxRecDepth 100000
set_option autoImplicit false
namespace Ev
open PySem
theorem wgt_le {k : Nat} : ∀ {ps : List Tt}, (∀ p ∈ ps, p.length ≤ k) → wgt ps ≤ ps.length * k
  | [], _ => Nat.zero_le _
  | p :: ps, h => by
    have h1 := h p List.mem_cons_self
    have h2 := wgt_le fun q hq => h q (List.mem_cons_of_mem _ hq)
    show p.length + wgt ps ≤ (ps.length + 1) * k
    rw [Nat.succ_mul]
    omega
theorem joinL_nil : ∀ ps : List Tt, TL.joinL [] ps = ps.flatten
  | [] => rfl
  | [p] => by
    show p = p ++ []
    rw [List.append_nil]
  | p :: q :: r => by
    show p ++ ([] ++ TL.joinL [] (q :: r)) = _
    rw [joinL_nil (q :: r)]
    rfl
/-- joined, by small pieces -/
theorem tx_joinK {a : Tt} {ps : List Tt} (k n : Nat) (h : ∀ p ∈ ps, p.length ≤ k) (hn : ps.length ≤ n) (hk : n * (k + a.length) ≤ 16777216) : txD .join (.str (sx a)) (.list (ps.map fun p => .str (sx p))) = some (.str (sx (TL.joinL a ps))) := by
  refine tx_join ?_
  have h1 := wgt_le h
  have h2 : ps.length * (k + a.length) ≤ n * (k + a.length) := Nat.mul_le_mul_right _ hn
  rw [Nat.mul_add] at h2
  omega
theorem lenJ {k : Nat} {a : Tt} : ∀ {ps : List Tt}, (∀ p ∈ ps, p.length ≤ k) → (TL.joinL a ps).length ≤ ps.length * (k + a.length)
  | [], _ => Nat.zero_le _
  | [p], h => by
    have := h p List.mem_cons_self
    show p.length ≤ 1 * _
    omega
  | p :: q :: r, h => by
    have h1 := h p List.mem_cons_self
    have h2 := lenJ (a := a) fun x hx => h x (List.mem_cons_of_mem p hx)
    show (p ++ (a ++ TL.joinL a (q :: r))).length ≤ (r.length + 1 + 1) * _
    rw [List.length_append, List.length_append, Nat.succ_mul]
    rw [List.length_cons] at h2
    omega
def DigL (ns : List Int) : Prop := ∀ n ∈ ns, Dig n
theorem numsT_len {ns : List Int} {n : Nat} (h : ns.length ≤ n) : (numsT ns).length ≤ n * 2 := by
  have := lenJ (k := 1) (a := [32]) (ps := ns.map digT) fun p hp => by
    obtain ⟨q, _, rfl⟩ := List.mem_map.mp hp
    exact Nat.le_refl _
  rw [List.length_map] at this
  unfold numsT
  have h2 : ns.length * (1 + [32].length) ≤ n * 2 := Nat.mul_le_mul_right _ h
  omega
theorem prsT_len {c : Prs} {n : Nat} (h : c.length ≤ n) : (prsT c).length ≤ n * 4 := by
  have := lenJ (k := 3) (a := [32]) (ps := c.map pairT) fun p hp => by
    obtain ⟨q, _, rfl⟩ := List.mem_map.mp hp
    exact Nat.le_refl _
  rw [List.length_map] at this
  unfold prsT
  have h2 : c.length * (3 + [32].length) ≤ n * 4 := Nat.mul_le_mul_right _ h
  omega
abbrev NumsT (cf : CF) (i : Nat) : Prop := ∀ ns, DigL ns → ns.length ≤ 10 → cf i [szD ns] = ret (.str (sx (numsT ns)))
abbrev CmbT (cf : CF) (i : Nat) : Prop := ∀ c, DigP c → c.length ≤ 10 → cf i [cbD c] = ret (.str (sx (prsT c)))
@[simp] theorem e_joined (cf : CF) (s : Sl) (es : Es) : evE cf (.joined es) s = bnd (evJ cf es Str.empty s) fun y => ret (.str y) := by simp only [evE]
@[simp] theorem e_fval (cf : CF) (s : Sl) (a : E) : evE cf (.fval a) s = bnd (evE cf a s) fun x => lift (fvalD x) := by simp only [evE]
@[simp] theorem j_nil (cf : CF) (s : Sl) (acc : Str) : evJ cf .nil acc s = ret acc := by simp only [evJ]
@[simp] theorem j_cons (cf : CF) (s : Sl) (acc : Str) (e : E) (es : Es) : evJ cf (.cons e es) acc s = bnd (evE cf e s) fun x => bnd (lift (appS acc x)) fun a => evJ cf es a s := by simp only [evJ]
theorem app_sx {a b : Tt} (h : a.length + b.length ≤ LIM) : appS (sx a) (.str (sx b)) = some (sx (a ++ b)) := by
  show (if (sx a ++ sx b).length ≤ LIM then some (sx a ++ sx b) else none) = _
  rw [sx_app, sx_len, List.length_append, if_pos h]
theorem empty_sx : Str.empty = sx [] := rfl
theorem pairT_eq (p : Int × Int) : [] ++ digT p.1 ++ [61] ++ digT p.2 = pairT p := by simp [pairT]
section
variable {cf : CF} {fu : Nat}
theorem ev_numbers_text {ns : List Int} (h : DigL ns) (hl : ns.length ≤ 10) : runF cf fu f_numbers_text [szD ns] = ret (.str (sx (numsT ns))) := by
  rw [run_code cf fu (f := f_numbers_text) rfl (s0 := [some (.i (szD ns)), none]) rfl]
  have c1 : evE cf (.comp (.bi .stri (.pk 1)) (.name 1) (.seq (.var 0)) .yes [1]) [some (.i (szD ns)), none] = ret (.list (ns.map fun n => .str (sx (digT n)))) := by
    refine ev_compM .int ns _ (by simp -implicitDefEqProofs [szD, seqD]) fun n hn => ?_
    have := (tx_str (h n hn)).1
    simp -implicitDefEqProofs [turnC, wipeA, bindT, this]
  have j1 := tx_joinK (a := [32]) (ps := ns.map digT) 1 10 (fun p hp => by
    obtain ⟨q, _, rfl⟩ := List.mem_map.mp hp
    exact Nat.le_refl _) (by rw [List.length_map]; exact hl) (by decide)
  rw [List.map_map, ← y_sp] at j1
  have j1 : txD .join (.str (Str.ofString " ")) (.list (ns.map fun n => .str (sx (digT n)))) = some (.str (sx (numsT ns))) := j1
  simp -implicitDefEqProofs [f_numbers_text, c1, j1]
theorem ev_combination_text {c : Prs} (h : DigP c) (hl : c.length ≤ 10) : runF cf fu f_combination_text [cbD c] = ret (.str (sx (prsT c))) := by
  rw [run_code cf fu (f := f_combination_text) rfl (s0 := [some (.i (cbD c)), none, none]) rfl]
  have c1 : evE cf (.comp (.joined (.cons (.fval (.var 1)) (.cons (.str "=") (.cons (.fval (.var 2)) .nil)))) (.tup (.cons (.name 1) (.cons (.name 2) .nil))) (.seq (.var 0)) .yes [1, 2]) [some (.i (cbD c)), none, none] = ret (.list (c.map fun p => .str (sx (pairT p)))) := by
    refine ev_compM prI c _ (by simp -implicitDefEqProofs [cbD, seqD]) fun p hp => ?_
    have h1 := (tx_str (h p hp).1).2
    have h2 := (tx_str (h p hp).2).2
    have a1 := app_sx (a := []) (b := digT p.1) (by show 0 + 1 ≤ LIM; unfold LIM; omega)
    have a2 := app_sx (a := [] ++ digT p.1) (b := [61]) (by show 1 + 1 ≤ LIM; unfold LIM; omega)
    have a3 := app_sx (a := [] ++ digT p.1 ++ [61]) (b := digT p.2) (by show 2 + 1 ≤ LIM; unfold LIM; omega)
    rw [pairT_eq] at a3
    rw [← empty_sx] at a1
    rw [← y_eq] at a2
    generalize sx ([] ++ digT p.1) = A1 at *
    generalize sx ([] ++ digT p.1 ++ [61]) = A2 at *
    simp -implicitDefEqProofs [turnC, wipeA, bindT, bindTs, prI, h1, h2, a1, a2, a3]
  have j1 := tx_joinK (a := [32]) (ps := c.map pairT) 3 10 (fun p hp => by
    obtain ⟨q, _, rfl⟩ := List.mem_map.mp hp
    exact Nat.le_refl _) (by rw [List.length_map]; exact hl) (by decide)
  rw [List.map_map, ← y_sp] at j1
  have j1 : txD .join (.str (Str.ofString " ")) (.list (c.map fun n => .str (sx (pairT n)))) = some (.str (sx (prsT c))) := j1
  simp -implicitDefEqProofs [f_combination_text, c1, j1]
theorem ev_law_pairs {c : Prs} (h : DigP c) (hl : c.length ≤ 10) : runF cf fu f_law_pairs [cbD c] = ret (.str (sx (prsT c))) := by
  rw [run_code cf fu (f := f_law_pairs) rfl (s0 := [some (.i (cbD c)), none, none]) rfl]
  have c1 : evE cf (.comp (.op .add (.op .add (.bi .stri (.pk 1)) (.str "=")) (.bi .stri (.pk 2))) (.tup (.cons (.name 1) (.cons (.name 2) .nil))) (.seq (.var 0)) .yes [1, 2]) [some (.i (cbD c)), none, none] = ret (.list (c.map fun p => .str (sx (pairT p)))) := by
    refine ev_compM prI c _ (by simp -implicitDefEqProofs [cbD, seqD]) fun p hp => ?_
    have h1 := (tx_str (h p hp).1).1
    have h2 := (tx_str (h p hp).2).1
    have a2 := tx_add (a := digT p.1) (b := [61]) (by show 1 + 1 ≤ LIM; unfold LIM; omega)
    have a3 := tx_add (a := digT p.1 ++ [61]) (b := digT p.2) (by show 2 + 1 ≤ LIM; unfold LIM; omega)
    have e : digT p.1 ++ [61] ++ digT p.2 = pairT p := by simp [pairT]
    rw [e] at a3
    rw [← y_eq] at a2
    generalize sx (digT p.1 ++ [61]) = A2 at *
    simp -implicitDefEqProofs [turnC, wipeA, bindT, bindTs, prI, h1, h2, a2, a3]
  have j1 := tx_joinK (a := [32]) (ps := c.map pairT) 3 10 (fun p hp => by
    obtain ⟨q, _, rfl⟩ := List.mem_map.mp hp
    exact Nat.le_refl _) (by rw [List.length_map]; exact hl) (by decide)
  rw [List.map_map, ← y_sp] at j1
  have j1 : txD .join (.str (Str.ofString " ")) (.list (c.map fun n => .str (sx (pairT n)))) = some (.str (sx (prsT c))) := j1
  simp -implicitDefEqProofs [f_law_pairs, c1, j1]
end
def mdRows (ns : List Int) (cs : List Prs) : List Tt := (kSizes ++ numsT ns) :: cs.map fun c => kNot ++ prsT c
def mdT (ns : List Int) (cs : List Prs) : Tt := rowsT (mdRows ns cs)
/-- what a model's text wants -/
structure MdTx (ns : List Int) (cs : List Prs) : Prop where
  ne : ns ≠ []
  dn : DigL ns
  ln : ns.length ≤ 10
  dc : ∀ c ∈ cs, DigP c ∧ c ≠ [] ∧ c.length ≤ 10
  lc : cs.length ≤ 10
abbrev MdlT (cf : CF) (i : Nat) : Prop := ∀ ns cs, MdTx ns cs → cf i [mdD ns cs] = ret (.str (sx (mdT ns cs)))
theorem mdRows_len {ns : List Int} {cs : List Prs} (h : MdTx ns cs) : ∀ r ∈ mdRows ns cs, r.length ≤ 44 := by
  intro r hr
  rcases List.mem_cons.mp hr with rfl | hr
  · have := numsT_len h.ln
    rw [List.length_append]
    show 6 + _ ≤ _
    omega
  · obtain ⟨c, hc, rfl⟩ := List.mem_map.mp hr
    have := prsT_len (h.dc c hc).2.2
    rw [List.length_append]
    show 4 + _ ≤ _
    omega
theorem mdRows_cnt {ns : List Int} {cs : List Prs} (h : MdTx ns cs) : (mdRows ns cs).length ≤ 11 := by
  show (cs.map _).length + 1 ≤ 11
  rw [List.length_map]
  have := h.lc
  omega
theorem rowsT_len {k : Nat} : ∀ {rs : List Tt}, (∀ r ∈ rs, r.length ≤ k) → (rowsT rs).length ≤ rs.length * (k + 1)
  | [], _ => Nat.zero_le _
  | r :: rs, h => by
    have h1 := h r List.mem_cons_self
    have h2 := rowsT_len fun q hq => h q (List.mem_cons_of_mem _ hq)
    show ((r ++ [10]) ++ rowsT rs).length ≤ (rs.length + 1) * (k + 1)
    rw [List.length_append, List.length_append, Nat.succ_mul]
    show r.length + 1 + _ ≤ _
    omega
theorem mdT_len {ns : List Int} {cs : List Prs} (h : MdTx ns cs) : (mdT ns cs).length ≤ 500 := by
  have h1 := rowsT_len (mdRows_len h)
  have h2 := mdRows_cnt h
  have h3 : (mdRows ns cs).length * (44 + 1) ≤ 11 * 45 := Nat.mul_le_mul_right _ h2
  unfold mdT
  omega
/-- rows joined by nothing, each with its end -/
theorem join_rows (rs : List Tt) : TL.joinL [] (rs.map (· ++ [10])) = rowsT rs := joinL_nil _
section
variable {cf : CF} {fu : Nat}
theorem ev_model_text {ic in_ : Nat} (hC : CmbT cf ic) (hN : NumsT cf in_) {ns : List Int} {cs : List Prs} (h : MdTx ns cs) : runF cf fu (f_model_text ic in_) [mdD ns cs] = ret (.str (sx (mdT ns cs))) := by
  rw [run_code cf fu (f := f_model_text ic in_) rfl (s0 := [some (.i (mdD ns cs)), none, none, none]) rfl]
  have x0 : ixD (mdD ns cs) (.int 0) = some (szD ns) := rfl
  have x1 : ixD (mdD ns cs) (.int 1) = some (.tuple (cs.map cbD)) := rfl
  have n1 := hN ns h.dn h.ln
  have hl1 := numsT_len h.ln
  have a1 := tx_add (a := kSizes) (b := numsT ns) (by show 6 + _ ≤ LIM; unfold LIM; omega)
  rw [← y_sizes] at a1
  generalize mdD ns cs = md at *
  have z1 : (1 : Nat) ≤ LIM := by unfold LIM; omega
  have c1 : evE cf (.comp (.op .add (.str "not ") (.call ic (.cons (.var 2) .nil))) (.name 2) (.seq (.ix (.pk 0) (.int 1))) .yes [2]) [some (.i md), none, none, none] = ret (.list (cs.map fun c => .str (sx (kNot ++ prsT c)))) := by
    refine ev_compM cbD cs _ (by simp -implicitDefEqProofs [x1, seqD]) fun c hc => ?_
    have h1 := hC c (h.dc c hc).1 (h.dc c hc).2.2
    have hl2 := prsT_len (h.dc c hc).2.2
    have a2 := tx_add (a := kNot) (b := prsT c) (by show 4 + _ ≤ LIM; unfold LIM; omega)
    rw [← y_not] at a2
    generalize cbD c = cd at *
    simp -implicitDefEqProofs [turnC, wipeA, bindT, h1, a2]
  have r1 : addD (.list [.str (sx (kSizes ++ numsT ns))]) (.list (cs.map fun c => .str (sx (kNot ++ prsT c)))) = some (.list ((mdRows ns cs).map fun r => .str (sx r))) := by
    show (if 1 + (cs.map fun c => PyData.str (sx (kNot ++ prsT c))).length ≤ LIM then some (PyData.list ([PyData.str (sx (kSizes ++ numsT ns))] ++ cs.map fun c => PyData.str (sx (kNot ++ prsT c)))) else none) = _
    rw [if_pos (by rw [List.length_map]; have := h.lc; unfold LIM; omega)]
    unfold mdRows
    rw [List.map_cons, List.map_map]
    rfl
  have r1 : opD .add (.list [.str (sx (kSizes ++ numsT ns))]) (.list (cs.map fun c => .str (sx (kNot ++ prsT c)))) = some (.list ((mdRows ns cs).map fun r => .str (sx r))) := r1
  have hrl := mdRows_len h
  have hrc := mdRows_cnt h
  have c2 : evE cf (.comp (.op .add (.pk 3) (.str "\n")) (.name 3) (.seq (.var 1)) .yes [3]) [some (.i md), some (.i (.list ((mdRows ns cs).map fun r => .str (sx r)))), none, none] = ret (.list ((mdRows ns cs).map fun r => .str (sx (r ++ [10])))) := by
    refine ev_compM (fun r => .str (sx r)) (mdRows ns cs) _ (by simp -implicitDefEqProofs [seqD]) fun r hr => ?_
    have a2 := tx_add (a := r) (b := [10]) (by have := hrl r hr; show _ + 1 ≤ LIM; unfold LIM; omega)
    rw [← y_nl] at a2
    simp -implicitDefEqProofs [turnC, wipeA, bindT, a2]
  have j1 := tx_joinK (a := []) (ps := (mdRows ns cs).map (· ++ [10])) 45 11 (fun p hp => by
    obtain ⟨q, hq, rfl⟩ := List.mem_map.mp hp
    rw [List.length_append]
    have := hrl q hq
    show _ + 1 ≤ _
    omega) (by rw [List.length_map]; exact hrc) (by decide)
  rw [List.map_map, ← y_nil, join_rows] at j1
  have j1 : txD .join (.str (Str.ofString "")) (.list ((mdRows ns cs).map fun r => .str (sx (r ++ [10])))) = some (.str (sx (mdT ns cs))) := j1
  generalize PyData.list ((mdRows ns cs).map fun r => .str (sx r)) = V1 at *
  generalize PyData.list ((mdRows ns cs).map fun r => .str (sx (r ++ [10]))) = V2 at *
  generalize (cs.map fun c => PyData.str (sx (kNot ++ prsT c))) = V3 at *
  simp -implicitDefEqProofs [f_model_text, bindT, x0, n1, a1, z1, c1, r1, c2, j1]
theorem ev_law_text {ip : Nat} (hC : CmbT cf ip) {ns : List Int} {cs : List Prs} (h : MdTx ns cs) : runF cf fu (f_law_text ip) [mdD ns cs] = ret (.str (sx (mdT ns cs))) := by
  rw [run_code cf fu (f := f_law_text ip) rfl (s0 := [some (.i (mdD ns cs)), none, none, none]) rfl]
  have x0 : ixD (mdD ns cs) (.int 0) = some (szD ns) := rfl
  have x1 : ixD (mdD ns cs) (.int 1) = some (.tuple (cs.map cbD)) := rfl
  generalize mdD ns cs = md at *
  have z1 : (1 : Nat) ≤ LIM := by unfold LIM; omega
  have y5 : (Str.ofString "sizes" : Str) = sx [115, 105, 122, 101, 115] := by decide +kernel
  have c0 : evE cf (.comp (.op .add (.str " ") (.bi .stri (.pk 2))) (.name 2) (.seq (.ix (.pk 0) (.int 0))) .yes [2]) [some (.i md), none, none, none] = ret (.list (ns.map fun n => .str (sx (32 :: digT n)))) := by
    refine ev_compM .int ns _ (by simp -implicitDefEqProofs [x0, szD, seqD]) fun n hn => ?_
    have h1 := (tx_str (h.dn n hn)).1
    have a2 := tx_add (a := [32]) (b := digT n) (by show 1 + 1 ≤ LIM; unfold LIM; omega)
    rw [← y_sp] at a2
    have a2 : opD .add (.str (Str.ofString " ")) (.str (sx (digT n))) = some (.str (sx (32 :: digT n))) := a2
    simp -implicitDefEqProofs [turnC, wipeA, bindT, h1, a2]
  obtain ⟨us, hus⟩ : ∃ us : List Tt, us = [115, 105, 122, 101, 115] :: (ns.map fun n => 32 :: digT n) ++ [[10]] := ⟨_, rfl⟩
  have r0 : opD .add (.list [.str (Str.ofString "sizes")]) (.list (ns.map fun n => .str (sx (32 :: digT n)))) = some (.list (([115, 105, 122, 101, 115] :: (ns.map fun n => 32 :: digT n)).map fun r => .str (sx r))) := by
    show (if 1 + (ns.map fun n => PyData.str (sx (32 :: digT n))).length ≤ LIM then some (PyData.list ([PyData.str (Str.ofString "sizes")] ++ ns.map fun n => PyData.str (sx (32 :: digT n)))) else none) = _
    rw [if_pos (by rw [List.length_map]; have := h.ln; unfold LIM; omega), y5, List.map_cons, List.map_map]
    rfl
  have r1 : opD .add (.list (([115, 105, 122, 101, 115] :: (ns.map fun n => 32 :: digT n)).map fun r => .str (sx r))) (.list [.str (Str.ofString "\n")]) = some (.list (us.map fun r => .str (sx r))) := by
    show (if (([115, 105, 122, 101, 115] :: (ns.map fun n => 32 :: digT n)).map fun r => PyData.str (sx r)).length + 1 ≤ LIM then some (PyData.list ((([115, 105, 122, 101, 115] :: (ns.map fun n => 32 :: digT n)).map fun r => PyData.str (sx r)) ++ [PyData.str (Str.ofString "\n")])) else none) = _
    rw [if_pos (by rw [List.length_map, List.length_cons, List.length_map]; have := h.ln; unfold LIM; omega), y_nl, hus, List.map_append]
    rfl
  have c1 : evE cf (.comp (.op .add (.op .add (.str "not ") (.call ip (.cons (.var 3) .nil))) (.str "\n")) (.name 3) (.seq (.ix (.pk 0) (.int 1))) .yes [3]) [some (.i md), some (.i (.list (us.map fun r => .str (sx r)))), none, none] = ret (.list (cs.map fun c => .str (sx (kNot ++ prsT c ++ [10])))) := by
    refine ev_compM cbD cs _ (by simp -implicitDefEqProofs [x1, seqD]) fun c hc => ?_
    have h1 := hC c (h.dc c hc).1 (h.dc c hc).2.2
    have hl2 := prsT_len (h.dc c hc).2.2
    have a2 := tx_add (a := kNot) (b := prsT c) (by show 4 + _ ≤ LIM; unfold LIM; omega)
    have a3 := tx_add (a := kNot ++ prsT c) (b := [10]) (by rw [List.length_append]; show 4 + _ + 1 ≤ LIM; unfold LIM; omega)
    rw [← y_not] at a2
    rw [← y_nl] at a3
    generalize cbD c = cd at *
    generalize kNot ++ prsT c ++ [10] = e3 at *
    generalize kNot ++ prsT c = e2 at *
    simp -implicitDefEqProofs [turnC, wipeA, bindT, h1, a2, a3]
  obtain ⟨ws, hws⟩ : ∃ ws : List Tt, ws = us ++ cs.map fun c => kNot ++ prsT c ++ [10] := ⟨_, rfl⟩
  have hul : us.length = ns.length + 2 := by rw [hus]; simp
  have r2 : opD .add (.list (us.map fun r => .str (sx r))) (.list (cs.map fun c => .str (sx (kNot ++ prsT c ++ [10])))) = some (.list (ws.map fun r => .str (sx r))) := by
    show (if (us.map fun r => PyData.str (sx r)).length + (cs.map fun c => PyData.str (sx (kNot ++ prsT c ++ [10]))).length ≤ LIM then some (PyData.list ((us.map fun r => PyData.str (sx r)) ++ cs.map fun c => PyData.str (sx (kNot ++ prsT c ++ [10])))) else none) = _
    rw [if_pos (by rw [List.length_map, List.length_map, hul]; have := h.ln; have := h.lc; unfold LIM; omega), hws, List.map_append, List.map_map]
    rfl
  have hwf : TL.joinL [] ws = mdT ns cs := by
    have e := join_flat 32 (ns.map digT) (by simpa using h.ne)
    rw [List.map_map] at e
    have e : (ns.map fun n => 32 :: digT n).flatten = 32 :: numsT ns := e.symm
    rw [joinL_nil, hws, hus, List.flatten_append, List.flatten_append, List.flatten_cons, e]
    unfold mdT rowsT mdRows
    rw [List.map_cons, List.flatten_cons, List.map_map]
    simp [kSizes]
    rfl
  have j1 := tx_joinK (a := []) (ps := ws) 45 22 (fun p hp => by
    rw [hws] at hp
    rcases List.mem_append.mp hp with z | z
    · rw [hus] at z
      rcases List.mem_append.mp z with z | z
      · rcases List.mem_cons.mp z with rfl | z
        · show 5 ≤ 45
          decide
        · obtain ⟨n, _, rfl⟩ := List.mem_map.mp z
          show 2 ≤ 45
          decide
      · rw [List.mem_singleton.mp z]
        show 1 ≤ 45
        decide
    · obtain ⟨c, hc, rfl⟩ := List.mem_map.mp z
      have := prsT_len (h.dc c hc).2.2
      rw [List.length_append, List.length_append]
      show 4 + _ + 1 ≤ 45
      omega) (by rw [hws, List.length_append, hul, List.length_map]; have := h.ln; have := h.lc; omega) (by decide)
  rw [hwf, ← y_nil] at j1
  generalize PyData.list (ws.map fun r => .str (sx r)) = V1 at *
  generalize PyData.list (us.map fun r => .str (sx r)) = V2 at *
  generalize (cs.map fun c => PyData.str (sx (kNot ++ prsT c ++ [10]))) = V3 at *
  generalize (ns.map fun n => PyData.str (sx (32 :: digT n))) = V4 at *
  generalize PyData.list (([115, 105, 122, 101, 115] :: (ns.map fun n => 32 :: digT n)).map fun r => .str (sx r)) = V5 at *
  simp -implicitDefEqProofs [f_law_text, bindT, z1, c0, r0, r1, c1, r2, j1]
end
def resRows (rs : Rs) : List Tt := rs.map fun r => (if r.2 then kFail else kPass) ++ numsT r.1
def resT (rs : Rs) : Tt := rowsT (resRows rs)
structure ResTx (rs : Rs) : Prop where
  len : rs.length ≤ 20
  row : ∀ r ∈ rs, r.1 ≠ [] ∧ DigL r.1 ∧ r.1.length ≤ 10
abbrev RsTx (cf : CF) (i : Nat) : Prop := ∀ rs, ResTx rs → cf i [ressD rs] = ret (.str (sx (resT rs)))
def fpT (b : Bool) : Tt := if b then kFail else kPass
theorem fpT_len (b : Bool) : (fpT b).length = 5 := by cases b <;> rfl
theorem resRows_len {rs : Rs} (h : ResTx rs) : ∀ r ∈ resRows rs, r.length ≤ 25 := by
  intro r hr
  obtain ⟨q, hq, rfl⟩ := List.mem_map.mp hr
  have := numsT_len (h.row q hq).2.2
  have h5 := fpT_len q.2
  show (fpT q.2 ++ numsT q.1).length ≤ 25
  rw [List.length_append]
  omega
theorem resT_len {rs : Rs} (h : ResTx rs) : (resT rs).length ≤ 520 := by
  have h1 := rowsT_len (resRows_len h)
  have h2 : (resRows rs).length * (25 + 1) ≤ 20 * 26 := Nat.mul_le_mul_right _ (by unfold resRows; rw [List.length_map]; exact h.len)
  unfold resT
  omega
theorem zip_maps {α β γ δ : Type} (f : α → γ) (g : β → δ) : ∀ (l : List α) (k : List β), (l.map f).zip (k.map g) = (l.zip k).map fun p => (f p.1, g p.2)
  | [], _ => rfl
  | _ :: _, [] => rfl
  | x :: l, y :: k => by rw [List.map_cons, List.map_cons, List.zip_cons_cons, List.zip_cons_cons, List.map_cons, zip_maps f g l k]
theorem zip_self {α : Type} : ∀ l : List α, l.zip l = l.map fun x => (x, x)
  | [] => rfl
  | x :: l => by rw [List.zip_cons_cons, List.map_cons, zip_self l]
section
variable {cf : CF} {fu : Nat}
theorem ev_results_text {in_ : Nat} (hN : NumsT cf in_) {rs : Rs} (h : ResTx rs) : runF cf fu (f_results_text in_) [ressD rs] = ret (.str (sx (resT rs))) := by
  rw [run_code cf fu (f := f_results_text in_) rfl (s0 := [some (.i (ressD rs)), none, none, none, none, none]) rfl]
  have c0 : evE cf (.comp (.ite (.val (.pk 3)) (.str "fail ") (.str "pass ")) (.tup (.cons (.name 2) (.cons (.name 3) .nil))) (.seq (.var 0)) .yes [2, 3]) [some (.i (ressD rs)), none, none, none, none, none] = ret (.list (rs.map fun r => .str (sx (fpT r.2)))) := by
    refine ev_compM rsD rs _ (by simp -implicitDefEqProofs [ressD, seqD]) fun r hr => ?_
    obtain ⟨t, b⟩ := r
    cases b
    · simp -implicitDefEqProofs [turnC, wipeA, bindT, bindTs, rsD, truD, fpT, y_pass]
    · simp -implicitDefEqProofs [turnC, wipeA, bindT, bindTs, rsD, truD, fpT, y_fail]
  have hz : zipD (.list (rs.map fun r => .str (sx (fpT r.2)))) (ressD rs) = some (rs.map fun r => .tuple [.str (sx (fpT r.2)), rsD r]) := by
    show some (((rs.map fun r => PyData.str (sx (fpT r.2))).zip (rs.map rsD)).map pairD) = _
    rw [zip_maps, zip_self, List.map_map, List.map_map]
    rfl
  have c1 : evE cf (.comp (.op .add (.op .add (.pk 4) (.call in_ (.cons (.ix (.pk 5) (.int 0)) .nil))) (.str "\n")) (.tup (.cons (.name 4) (.cons (.name 5) .nil))) (.zip (.var 1) (.var 0)) .yes [4, 5]) [some (.i (ressD rs)), some (.i (.list (rs.map fun r => .str (sx (fpT r.2))))), none, none, none, none] = ret (.list (rs.map fun r => .str (sx (fpT r.2 ++ numsT r.1 ++ [10])))) := by
    refine ev_compM (fun r => .tuple [.str (sx (fpT r.2)), rsD r]) rs _ ?_ fun r hr => ?_
    · generalize PyData.list (rs.map fun r => .str (sx (fpT r.2))) = V at *
      simp -implicitDefEqProofs [hz]
    · have hr' := h.row r hr
      have n1 := hN r.1 hr'.2.1 hr'.2.2
      have hl := numsT_len hr'.2.2
      have h5 := fpT_len r.2
      have a1 := tx_add (a := fpT r.2) (b := numsT r.1) (by rw [h5]; unfold LIM; omega)
      have a2 := tx_add (a := fpT r.2 ++ numsT r.1) (b := [10]) (by rw [List.length_append, h5]; show 5 + _ + 1 ≤ LIM; unfold LIM; omega)
      have x0 : ixD (rsD r) (.int 0) = some (szD r.1) := rfl
      rw [← y_nl] at a2
      generalize rsD r = rd at *
      generalize fpT r.2 ++ numsT r.1 ++ [10] = e3 at *
      generalize fpT r.2 ++ numsT r.1 = e2 at *
      simp -implicitDefEqProofs [turnC, wipeA, bindT, bindTs, x0, n1, a1, a2]
  have hrl := resRows_len h
  have j1 := tx_joinK (a := []) (ps := (resRows rs).map (· ++ [10])) 26 20 (fun p hp => by
    obtain ⟨q, hq, rfl⟩ := List.mem_map.mp hp
    rw [List.length_append]
    have := hrl q hq
    show _ + 1 ≤ _
    omega) (by unfold resRows; rw [List.length_map, List.length_map]; exact h.len) (by decide)
  rw [List.map_map, ← y_nil, join_rows] at j1
  unfold resRows at j1
  rw [List.map_map] at j1
  have j1 : txD .join (.str (Str.ofString "")) (.list (rs.map fun r => .str (sx (fpT r.2 ++ numsT r.1 ++ [10])))) = some (.str (sx (resT rs))) := j1
  generalize PyData.list (rs.map fun r => .str (sx (fpT r.2 ++ numsT r.1 ++ [10]))) = V2 at *
  generalize PyData.list (rs.map fun r => .str (sx (fpT r.2))) = V1 at *
  generalize ressD rs = RD at *
  simp -implicitDefEqProofs [f_results_text, bindT, c0, c1, j1]
def JLn (RD : D) (rs : Rs) (k : Nat) (s : Sl) : Prop := ∃ x2 x3 x4 : Option SV, s = [some (.i RD), some (.l ((rs.take k).map fun r => .str (sx (fpT r.2 ++ numsT r.1 ++ [10])))), x2, x3, x4]
theorem ev_law_lines {rs : Rs} (h : ResTx rs) : runF cf fu f_law_lines [ressD rs] = ret (.str (sx (resT rs))) := by
  rw [run_code cf fu (f := f_law_lines) rfl (s0 := [some (.i (ressD rs)), none, none, none, none]) rfl]
  have z0 : (0 : Nat) ≤ LIM := Nat.zero_le _
  have y4 : (Str.ofString "fail" : Str) = sx [102, 97, 105, 108] := by decide +kernel
  have y5 : (Str.ofString "pass" : Str) = sx [112, 97, 115, 115] := by decide +kernel
  have hsq : seqD (ressD rs) = some (rs.map rsD) := rfl
  have hrl := resRows_len h
  have j1 := tx_joinK (a := []) (ps := (resRows rs).map (· ++ [10])) 26 20 (fun p hp => by
    obtain ⟨q, hq, rfl⟩ := List.mem_map.mp hp
    rw [List.length_append]
    have := hrl q hq
    show _ + 1 ≤ _
    omega) (by unfold resRows; rw [List.length_map, List.length_map]; exact h.len) (by decide)
  rw [List.map_map, ← y_nil, join_rows] at j1
  unfold resRows at j1
  rw [List.map_map] at j1
  have j1 : txD .join (.str (Str.ofString "")) (.list (rs.map fun r => .str (sx (fpT r.2 ++ numsT r.1 ++ [10])))) = some (.str (sx (resT rs))) := j1
  generalize ressD rs = RD at *
  simp -implicitDefEqProofs [f_law_lines, mutS, z0, hsq]
  refine Pu.eq (Pu.bnd (Pu.forM rsD rs rfl (JLn RD rs) ⟨none, none, none, rfl⟩ ?_) ?_)
  · rintro k r s hk ⟨x2, x3, x4, rfl⟩
    have hkl := (List.getElem?_eq_some_iff.mp hk).1
    have hm : r ∈ rs := List.mem_of_getElem? hk
    have hr' := h.row r hm
    have hl := numsT_len hr'.2.2
    have c1 : ∀ x3' : Option SV, evE cf (.comp (.op .add (.str " ") (.bi .stri (.pk 4))) (.name 4) (.seq (.var 2)) .yes [4]) [some (.i RD), some (.l ((rs.take k).map fun r => .str (sx (fpT r.2 ++ numsT r.1 ++ [10])))), some (.i (szD r.1)), x3', x4] = ret (.list (r.1.map fun n => .str (sx (32 :: digT n)))) := fun x3' => by
      refine ev_compM .int r.1 _ (by simp -implicitDefEqProofs [szD, seqD]) fun n hn => ?_
      have h1 := (tx_str (hr'.2.1 n hn)).1
      have a2 := tx_add (a := [32]) (b := digT n) (by show 1 + 1 ≤ LIM; unfold LIM; omega)
      rw [← y_sp] at a2
      have a2 : opD .add (.str (Str.ofString " ")) (.str (sx (digT n))) = some (.str (sx (32 :: digT n))) := a2
      simp -implicitDefEqProofs [turnC, wipeA, bindT, h1, a2]
    have e := join_flat 32 (r.1.map digT) (by simpa using hr'.1)
    rw [List.map_map] at e
    have e : (r.1.map fun n => 32 :: digT n).flatten = 32 :: numsT r.1 := e.symm
    have jj := tx_joinK (a := []) (ps := r.1.map fun n => 32 :: digT n) 2 10 (fun p hp => by
      obtain ⟨n, _, rfl⟩ := List.mem_map.mp hp
      exact Nat.le_refl _) (by rw [List.length_map]; exact hr'.2.2) (by decide)
    rw [joinL_nil, e, List.map_map, ← y_nil] at jj
    have jj : txD .join (.str (Str.ofString "")) (.list (r.1.map fun n => .str (sx (32 :: digT n)))) = some (.str (sx (32 :: numsT r.1))) := jj
    have a1 : ∀ b : Bool, opD .add (.str (if b then Str.ofString "fail" else Str.ofString "pass")) (.str (sx (32 :: numsT r.1))) = some (.str (sx (fpT b ++ numsT r.1))) := fun b => by
      cases b
      · rw [if_neg Bool.false_ne_true, y5, tx_add (by show 4 + ((numsT r.1).length + 1) ≤ LIM; unfold LIM; omega)]
        rfl
      · rw [if_pos rfl, y4, tx_add (by show 4 + ((numsT r.1).length + 1) ≤ LIM; unfold LIM; omega)]
        rfl
    have h5 := fpT_len r.2
    have a2 := tx_add (a := fpT r.2 ++ numsT r.1) (b := [10]) (by rw [List.length_append, h5]; show 5 + _ + 1 ≤ LIM; unfold LIM; omega)
    rw [← y_nl] at a2
    have hlen : ((rs.take k).map fun r => PyData.str (sx (fpT r.2 ++ numsT r.1 ++ [10]))).length < LIM := by
      rw [List.length_map, List.length_take]
      have := h.len
      unfold LIM
      omega
    have htk : (rs.take (k + 1)).map (fun r => PyData.str (sx (fpT r.2 ++ numsT r.1 ++ [10]))) = (rs.take k).map (fun r => PyData.str (sx (fpT r.2 ++ numsT r.1 ++ [10]))) ++ [.str (sx (fpT r.2 ++ numsT r.1 ++ [10]))] := by
      rw [List.take_add_one, hk, List.map_append]
      rfl
    have hJ : ∀ s', s' = [some (.i RD), some (.l ((rs.take k).map (fun r => PyData.str (sx (fpT r.2 ++ numsT r.1 ++ [10]))) ++ [.str (sx (fpT r.2 ++ numsT r.1 ++ [10]))])), some (.i (szD r.1)), some (.i (.bool r.2)), x4] → JLn RD rs (k + 1) s' := fun s' e => ⟨_, _, _, by rw [htk]; exact e⟩
    have hrd : rsD r = .tuple [szD r.1, .bool r.2] := rfl
    rw [hrd]
    have a1' := a1 r.2
    have cc := c1 (some (.i (.bool r.2)))
    generalize PyData.list (r.1.map fun n => .str (sx (32 :: digT n))) = W1 at *
    generalize fpT r.2 ++ numsT r.1 ++ [10] = e3 at *
    generalize fpT r.2 ++ numsT r.1 = e2 at *
    generalize ((rs.take k).map fun r => PyData.str (sx (fpT r.2 ++ numsT r.1 ++ [10]))) = ac at *
    generalize szD r.1 = tz at *
    clear htk j1 c1 a1
    cases hb : r.2 with
    | true =>
      rw [hb] at a1' cc hJ
      rw [if_pos rfl] at a1'
      simp -implicitDefEqProofs [turnF, bindT, bindTs, truD, cc, jj, a1', a2, hlen]
      exact Pu.nx (hJ _ rfl)
    | false =>
      rw [hb] at a1' cc hJ
      rw [if_neg Bool.false_ne_true] at a1'
      simp -implicitDefEqProofs [turnF, bindT, bindTs, truD, cc, jj, a1', a2, hlen]
      exact Pu.nx (hJ _ rfl)
  · rintro r ⟨s', rfl, x2, x3, x4, rfl⟩
    rw [List.take_length]
    generalize (rs.map fun r => PyData.str (sx (fpT r.2 ++ numsT r.1 ++ [10]))) = ac at *
    simp -implicitDefEqProofs [j1]
    exact Pu.ret rfl
end
end Ev

set_option Elab.async false
set_option linter.all false
set_option maxRecDepth 100000
set_option autoImplicit false
namespace Ev
open PySem
theorem mdC_of_mod {ns : List Int} {cs : List Prs} (h : isModelD (mdD ns cs) = true) : MdC ns cs := by
  have h0 := h
  unfold mdD szD at h
  show MdC ns cs
  have h : (decide (2 ≤ (ns.map PyData.int).length) && decide ((ns.map PyData.int).length ≤ 5) && (ns.map PyData.int).all sizeOk && decide ((cs.map cbD).length ≤ 8) && (cs.map cbD).all (isCombD ((ns.map PyData.int).map toI)) && ascB (cs.map cbD)) = true := h
  rw [toI_map, List.length_map, List.length_map] at h
  simp only [Bool.and_eq_true, decide_eq_true_eq, List.all_map, List.all_eq_true, Function.comp_def] at h
  obtain ⟨⟨⟨⟨⟨h1, h2⟩, h3⟩, h4⟩, h5⟩, h6⟩ := h
  have hs : ∀ n ∈ ns, 2 ≤ n ∧ n ≤ 4 := fun n hn => by
    have := h3 n hn
    simpa [sizeOk] using this
  exact ⟨h0, fun c hc => isComb_iff.mp (h5 c hc), sml_of h2 (fun n hn => by have := hs n hn; omega), h1, hs⟩
theorem mod_cnt {ns : List Int} {cs : List Prs} (h : isModelD (mdD ns cs) = true) : cs.length ≤ 8 := by
  have h : (decide (2 ≤ (ns.map PyData.int).length) && decide ((ns.map PyData.int).length ≤ 5) && (ns.map PyData.int).all sizeOk && decide ((cs.map cbD).length ≤ 8) && (cs.map cbD).all (isCombD ((ns.map PyData.int).map toI)) && ascB (cs.map cbD)) = true := h
  rw [List.length_map (as := cs)] at h
  simp only [Bool.and_eq_true, decide_eq_true_eq] at h
  exact h.1.1.2
theorem cb_dig {ns : List Int} {cs : List Prs} {c : Prs} (hm : MdC ns cs) (h : CbOk ns c) : DigP c ∧ c ≠ [] ∧ c.length ≤ 10 := by
  have hl := hm.len
  refine ⟨fun p hp => ?_, h.ne, by have := cb_len h; omega⟩
  obtain ⟨a1, a2, a3, a4⟩ := h.rng p hp
  have hg : ns.getD p.1.toNat 0 ∈ ns := by
    have hlt : p.1.toNat < ns.length := by omega
    rw [List.getD_eq_getElem?_getD, List.getElem?_eq_getElem hlt]
    exact List.getElem_mem hlt
  have := hm.siz _ hg
  exact ⟨⟨a1, by omega⟩, ⟨a3, by omega⟩⟩
theorem MdC.tx {ns : List Int} {cs : List Prs} (h : MdC ns cs) : MdTx ns cs where
  ne := fun e => by have := h.l2; rw [e] at this; cases this
  dn := fun n hn => by have := h.siz n hn; exact ⟨by omega, by omega⟩
  ln := by have := h.len; omega
  dc := fun c hc => cb_dig h (h.cmb c hc)
  lc := by have := mod_cnt h.mod; omega
theorem cmbL_some {ns : List Int} {l : Tt} {c : Prs} (h : cmbL ns l = some c) : CbOk ns c ∧ DigP c ∧ prsT c = l := by
  unfold cmbL at h
  obtain ⟨c', e1, e2⟩ := Option.bind_eq_some_iff.mp h
  split at e2
  · rename_i hb
    cases e2
    obtain ⟨h1, _, h3⟩ := prs_some e1
    exact ⟨isComb_iff.mp hb, h1, h3⟩
  · cases e2
theorem cmbL_of {ns : List Int} {cs : List Prs} {c : Prs} (hm : MdC ns cs) (h : CbOk ns c) : cmbL ns (prsT c) = some c := by
  obtain ⟨h1, h2, _⟩ := cb_dig hm h
  unfold cmbL
  rw [prs_dig h1 h2, Option.bind_some, if_pos (isComb_iff.mpr h)]
theorem take_app {a b : Tt} {n : Nat} (h : n = a.length) : (a ++ b).take n = a ∧ (a ++ b).drop n = b := by
  subst h
  exact ⟨List.take_left, List.drop_left⟩
theorem mdL_some {l : Tt} {ns : List Int} {cs : List Prs} (h : mdL l = some (ns, cs)) : isModelD (mdD ns cs) = true ∧ mdT ns cs = l := by
  unfold mdL at h
  obtain ⟨rows, e1, e2⟩ := Option.bind_eq_some_iff.mp h
  obtain ⟨hrt, _⟩ := rows_some e1
  cases rows with
  | nil => cases e2
  | cons r rs =>
    rw [mdR] at e2
    split at e2
    · rename_i hb
      rw [Bool.and_eq_true, decide_eq_true_eq, List.all_eq_true] at hb
      split at e2
      · rename_i ns' cs' q1 q2
        split at e2
        · rename_i hm
          cases e2
          refine ⟨hm, ?_⟩
          have er : r = kSizes ++ numsT ns := by
            rw [(nums_some q1).2.2, ← hb.1, List.take_append_drop]
          have ers : rs = cs.map fun c => kNot ++ prsT c := by
            have key : ∀ (rs : List Tt) (cs : List Prs), (∀ q ∈ rs, decide (q.take 4 = kNot) = true) → mapO (fun q => prsL (q.drop 4)) rs = some cs → rs = cs.map fun c => kNot ++ prsT c := by
              intro rs
              induction rs with
              | nil =>
                intro cs _ e
                cases e
                rfl
              | cons q rs ih =>
                intro cs hq e
                unfold mapO at e
                split at e
                · rename_i c cs' e1 e2
                  cases e
                  have h4 := of_decide_eq_true (hq q List.mem_cons_self)
                  rw [List.map_cons, ← ih cs' (fun z hz => hq z (List.mem_cons_of_mem _ hz)) e2, (prs_some e1).2.2, ← h4, List.take_append_drop]
                · cases e
            exact key rs cs hb.2 q2
          unfold mdT mdRows
          rw [← er, ← ers]
          exact hrt
        · cases e2
      · cases e2
    · cases e2
theorem mdRows_free {ns : List Int} {cs : List Prs} (h : MdTx ns cs) : ∀ r ∈ mdRows ns cs, 10 ∉ r := by
  intro r hr
  rcases List.mem_cons.mp hr with rfl | hr
  · intro hm
    rcases List.mem_append.mp hm with z | z
    · revert z
      decide
    · exact numsT_free h.dn z
  · obtain ⟨c, hc, rfl⟩ := List.mem_map.mp hr
    intro hm
    rcases List.mem_append.mp hm with z | z
    · revert z
      decide
    · exact prsT_free (h.dc c hc).1 z
theorem mdL_of {ns : List Int} {cs : List Prs} (h : MdC ns cs) : mdL (mdT ns cs) = some (ns, cs) := by
  have hx := h.tx
  unfold mdL mdT
  rw [rows_of (mdRows_free hx), Option.bind_some]
  unfold mdRows
  rw [mdR]
  have h1 := take_app (a := kSizes) (b := numsT ns) (n := 6) rfl
  have h2 : ((cs.map fun c => kNot ++ prsT c).all fun q => decide (q.take 4 = kNot)) = true := by
    rw [List.all_eq_true]
    intro q hq
    obtain ⟨c, _, rfl⟩ := List.mem_map.mp hq
    exact decide_eq_true (take_app (a := kNot) (b := prsT c) (n := 4) rfl).1
  have h3 : mapO (fun q => prsL (q.drop 4)) (cs.map fun c => kNot ++ prsT c) = some cs := mapO_of fun c hc => by
    rw [(take_app (a := kNot) (b := prsT c) (n := 4) rfl).2]
    exact prs_dig (hx.dc c hc).1 (hx.dc c hc).2.1
  rw [h1.1, h1.2, h2, nums_dig hx.dn hx.ne, h3]
  show (if isModelD (mdD ns cs) = true then some (ns, cs) else none) = _
  rw [if_pos h.mod]
theorem test_dig {ns : List Int} {cs : List Prs} (hm : MdC ns cs) {t : List Int} (h : isTestD ns cs (tsD t) = true) : t ≠ [] ∧ DigL t ∧ t.length ≤ 10 := by
  have h : (decide ((t.map PyData.int).length = ns.length) && inRng (t.map PyData.int) ns && !(cs.any (hasB ((t.map PyData.int).map toI)))) = true := h
  rw [List.length_map] at h
  simp only [Bool.and_eq_true, decide_eq_true_eq] at h
  obtain ⟨⟨h1, h2⟩, _⟩ := h
  have hl := hm.len
  have h2l := hm.l2
  refine ⟨fun e => by rw [e] at h1; have : ns.length = 0 := h1.symm; omega, ?_, by omega⟩
  have key : ∀ (t ns : List Int), t.length = ns.length → (∀ n ∈ ns, n ≤ 4) → inRng (t.map PyData.int) ns = true → DigL t := by
    intro t
    induction t with
    | nil =>
      intro ns _ _ _ n hn
      cases hn
    | cons x t ih =>
      intro ns hl hs hr
      cases ns with
      | nil => cases hl
      | cons n ns =>
        simp only [inRng, List.map_cons, List.zip_cons_cons, List.all_cons, Bool.and_eq_true, decide_eq_true_eq] at hr
        have hn := hs n List.mem_cons_self
        have r1 : 0 ≤ x := hr.1.1.2
        have r2 : x < n := hr.1.2
        intro y hy
        rcases List.mem_cons.mp hy with rfl | hy
        · exact ⟨r1, by omega⟩
        · exact ih ns (Nat.succ.inj hl) (fun z hz => hs z (List.mem_cons_of_mem _ hz)) (by unfold inRng; exact hr.2) y hy
  exact key t ns h1 (fun n hn => (hm.siz n hn).2) h2
theorem rowR_some {q : Tt} {r : List Int × Bool} (h : rowR q = some r) : q = fpT r.2 ++ numsT r.1 := by
  unfold rowR at h
  split at h
  · rename_i hb
    obtain ⟨ns, e1, rfl⟩ := Option.map_eq_some_iff.mp h
    rw [Bool.or_eq_true, decide_eq_true_eq, decide_eq_true_eq] at hb
    have e2 := (nums_some e1).2.2
    have e3 : fpT (decide (q.take 5 = kFail)) = q.take 5 := by
      rcases hb with hb | hb
      · rw [← hb]
        rfl
      · rw [← hb]
        rfl
    show q = fpT (decide (q.take 5 = kFail)) ++ numsT ns
    rw [e3, e2, List.take_append_drop]
  · cases h
theorem rowR_of {t : List Int} {b : Bool} (h : DigL t) (hn : t ≠ []) : rowR (fpT b ++ numsT t) = some (t, b) := by
  obtain ⟨h1, h2⟩ := take_app (a := fpT b) (b := numsT t) (n := 5) (fpT_len b).symm
  unfold rowR
  rw [h1, h2, nums_dig h hn]
  cases b <;> rfl
theorem rssL_some {ns : List Int} {cs : List Prs} {l : Tt} {rs : Rs} (hm : MdC ns cs) (h : rssL ns cs l = some rs) : ResTx rs ∧ resT rs = l := by
  unfold rssL at h
  obtain ⟨rows, e1, e2⟩ := Option.bind_eq_some_iff.mp h
  obtain ⟨rr, e3, e4⟩ := Option.bind_eq_some_iff.mp e2
  obtain ⟨hrt, _⟩ := rows_some e1
  split at e4
  · rename_i hb
    cases e4
    rw [Bool.and_eq_true, decide_eq_true_eq, List.all_eq_true] at hb
    refine ⟨⟨hb.1, fun r hr => ?_⟩, ?_⟩
    · have := hb.2 r hr
      have : (isTestD ns cs (tsD r.1) && isBoolD (.bool r.2)) = true := this
      rw [Bool.and_eq_true] at this
      exact test_dig hm this.1
    · unfold resT resRows
      rw [mapO_some (g := fun r : List Int × Bool => (if r.2 then kFail else kPass) ++ numsT r.1) (fun q r e => (rowR_some e).symm) e3]
      exact hrt
  · cases e4
theorem rssL_of {ns : List Int} {cs : List Prs} {rs : Rs} (hm : MdC ns cs) (hl : rs.length ≤ 20) (h : ∀ r ∈ rs, isTestD ns cs (tsD r.1) = true) : rssL ns cs (resT rs) = some rs ∧ ResTx rs := by
  have hx : ResTx rs := ⟨hl, fun r hr => test_dig hm (h r hr)⟩
  refine ⟨?_, hx⟩
  unfold rssL resT
  rw [rows_of fun r hr => ?_, Option.bind_some]
  · have e : mapO rowR (resRows rs) = some rs := mapO_of (g := fun r : List Int × Bool => (if r.2 then kFail else kPass) ++ numsT r.1) fun r hr => rowR_of (hx.row r hr).2.1 (hx.row r hr).1
    rw [e, Option.bind_some, if_pos]
    rw [Bool.and_eq_true, decide_eq_true_eq, List.all_eq_true]
    refine ⟨hl, fun r hr => ?_⟩
    show (isTestD ns cs (tsD r.1) && isBoolD (.bool r.2)) = true
    rw [h r hr]
    rfl
  · obtain ⟨q, hq, rfl⟩ := List.mem_map.mp hr
    intro hmm
    rcases List.mem_append.mp hmm with z | z
    · cases hb : q.2 <;> rw [hb] at z <;> revert z <;> decide
    · exact numsT_free (hx.row q hq).2.1 z
theorem chs_joinL {a : Tt} (ha : Chs a) : ∀ {ps : List Tt}, (∀ p ∈ ps, Chs p) → Chs (TL.joinL a ps)
  | [], _ => fun c hc => nomatch hc
  | [p], h => h p List.mem_cons_self
  | p :: q :: r, h => by
    show Chs (p ++ (a ++ TL.joinL a (q :: r)))
    exact (h p List.mem_cons_self).app (ha.app (chs_joinL ha fun x hx => h x (List.mem_cons_of_mem _ hx)))
theorem chs_dig {n : Int} (h : Dig n) : Chs (digT n) := fun c hc => by
  have : c = 48 + n.toNat := by simpa [digT] using hc
  have := h.2
  omega
theorem chs_numsT {ns : List Int} (h : DigL ns) : Chs (numsT ns) := chs_joinL (by unfold Chs; decide) fun p hp => by
  obtain ⟨n, hn, rfl⟩ := List.mem_map.mp hp
  exact chs_dig (h n hn)
theorem chs_prsT {c : Prs} (h : DigP c) : Chs (prsT c) := chs_joinL (by unfold Chs; decide) fun p hp => by
  obtain ⟨q, hq, rfl⟩ := List.mem_map.mp hp
  refine (chs_dig (h q hq).1).app fun x hx => ?_
  rcases List.mem_cons.mp hx with rfl | hx
  · decide
  · exact chs_dig (h q hq).2 x hx
theorem chs_rowsT {rs : List Tt} (h : ∀ r ∈ rs, Chs r) : Chs (rowsT rs) := fun c hc => by
  obtain ⟨p, hp, hc⟩ := List.mem_flatten.mp hc
  obtain ⟨r, hr, rfl⟩ := List.mem_map.mp hp
  rcases List.mem_append.mp hc with z | z
  · exact h r hr c z
  · rw [List.mem_singleton.mp z]
    decide
theorem chs_mdT {ns : List Int} {cs : List Prs} (h : MdTx ns cs) : Chs (mdT ns cs) := chs_rowsT fun r hr => by
  rcases List.mem_cons.mp hr with rfl | hr
  · exact chs_kSizes.app (chs_numsT h.dn)
  · obtain ⟨c, hc, rfl⟩ := List.mem_map.mp hr
    exact chs_kNot.app (chs_prsT (h.dc c hc).1)
theorem chs_resT {rs : Rs} (h : ResTx rs) : Chs (resT rs) := chs_rowsT fun r hr => by
  obtain ⟨q, hq, rfl⟩ := List.mem_map.mp hr
  refine Chs.app ?_ (chs_numsT (h.row q hq).2.1)
  cases q.2
  · exact chs_kPass
  · exact chs_kFail
structure FmM (cf : CF) (i xm : Nat) : Prop where
  ok : ∀ ns cs, MdC ns cs → cf i [mdD ns cs] = ret (.str (sx (mdT ns cs)))
  bad : ∀ d, Pl d → isModelD d = false → cf i [d] = thr xm
structure FmC (cf : CF) (i xc : Nat) : Prop where
  ok : ∀ ns cs c, MdC ns cs → CbOk ns c → cf i [mdD ns cs, cbD c] = ret (.str (sx (prsT c)))
  bad : ∀ ns cs d, MdC ns cs → Pl d → isCombD ns d = false → cf i [mdD ns cs, d] = thr xc
structure FmR (cf : CF) (i xr : Nat) : Prop where
  ok : ∀ ns cs rs, MdC ns cs → rs.length ≤ 20 → (∀ r ∈ rs, isTestD ns cs (tsD r.1) = true) → cf i [mdD ns cs, ressD rs] = ret (.str (sx (resT rs)))
  bad : ∀ ns cs d, MdC ns cs → Pl d → isRessD ns cs d = false → cf i [mdD ns cs, d] = thr xr
abbrev ChkCmb (cf : CF) (i x : Nat) : Prop := ∀ (ns : List Int) (cs : List (List (Int × Int))) (d : D), Pl d → cf i [mdD ns cs, d] = if isCombD ns d = true then ret .none else thr x
section
variable {cf cf' : CF} {fu j : Nat}
theorem fm_m {im it xm : Nat} (hM : CheckOk cf im xm) (hT : MdlT cf it) (he : ∀ ds, cf' j ds = runF cf fu (f_format_model im it) ds) : FmM cf' j xm where
  ok := fun ns cs h => by
    rw [he, run_code cf fu (f := f_format_model im it) rfl (s0 := [some (.i (mdD ns cs))]) rfl]
    have e1 : cf im [mdD ns cs] = ret .none := (hM _ (pl_md ns cs)).trans (if_pos h.mod)
    have e2 := hT ns cs h.tx
    generalize mdD ns cs = md at *
    simp -implicitDefEqProofs [f_format_model, e1, e2]
  bad := fun d h1 h2 => by
    rw [he, run_code cf fu (f := f_format_model im it) rfl (s0 := [some (.i d)]) rfl]
    have e1 : cf im [d] = thr xm := (hM _ h1).trans (if_neg (by rw [h2]; exact Bool.false_ne_true))
    simp -implicitDefEqProofs [f_format_model, e1]
theorem fm_c {ic im it xm xc : Nat} (hC : ChkCmb cf ic xc) (hM : CheckOk cf im xm) (hT : CmbT cf it) (he : ∀ ds, cf' j ds = runF cf fu (f_format_combination ic im it) ds) : FmC cf' j xc where
  ok := fun ns cs c h hc => by
    rw [he, run_code cf fu (f := f_format_combination ic im it) rfl (s0 := [some (.i (mdD ns cs)), some (.i (cbD c))]) rfl]
    have e1 : cf im [mdD ns cs] = ret .none := (hM _ (pl_md ns cs)).trans (if_pos h.mod)
    have e2 : cf ic [mdD ns cs, cbD c] = ret .none := (hC ns cs _ (pl_cb c)).trans (if_pos (isComb_iff.mpr hc))
    obtain ⟨d1, _, d3⟩ := cb_dig h hc
    have e3 := hT c d1 d3
    generalize mdD ns cs = md at *
    generalize cbD c = cd at *
    simp -implicitDefEqProofs [f_format_combination, e1, e2, e3]
  bad := fun ns cs d h h1 h2 => by
    rw [he, run_code cf fu (f := f_format_combination ic im it) rfl (s0 := [some (.i (mdD ns cs)), some (.i d)]) rfl]
    have e1 : cf im [mdD ns cs] = ret .none := (hM _ (pl_md ns cs)).trans (if_pos h.mod)
    have e2 : cf ic [mdD ns cs, d] = thr xc := (hC ns cs _ h1).trans (if_neg (by rw [h2]; exact Bool.false_ne_true))
    generalize mdD ns cs = md at *
    simp -implicitDefEqProofs [f_format_combination, e1, e2]
theorem fm_r {im ic it xm xr : Nat} (hM : CheckOk cf im xm) (hC : CheckRes cf ic xr) (hT : RsTx cf it) (he : ∀ ds, cf' j ds = runF cf fu (f_format_results im ic it) ds) : FmR cf' j xr where
  ok := fun ns cs rs h hl hr => by
    rw [he, run_code cf fu (f := f_format_results im ic it) rfl (s0 := [some (.i (mdD ns cs)), some (.i (ressD rs))]) rfl]
    have e1 : cf im [mdD ns cs] = ret .none := (hM _ (pl_md ns cs)).trans (if_pos h.mod)
    have hb : isRessD ns cs (ressD rs) = true := by
      show (decide ((rs.map rsD).length ≤ 20) && (rs.map rsD).all (isResD ns cs)) = true
      rw [List.length_map, Bool.and_eq_true, decide_eq_true_eq, List.all_map, List.all_eq_true]
      refine ⟨hl, fun r hq => ?_⟩
      show (isTestD ns cs (tsD r.1) && isBoolD (.bool r.2)) = true
      rw [hr r hq]
      rfl
    have e2 : cf ic [mdD ns cs, ressD rs] = ret .none := (hC ns cs _ h.cmb (pl_ress rs)).trans (if_pos hb)
    have e3 := hT rs (rssL_of h hl hr).2
    generalize mdD ns cs = md at *
    generalize ressD rs = rd at *
    simp -implicitDefEqProofs [f_format_results, e1, e2, e3]
  bad := fun ns cs d h h1 h2 => by
    rw [he, run_code cf fu (f := f_format_results im ic it) rfl (s0 := [some (.i (mdD ns cs)), some (.i d)]) rfl]
    have e1 : cf im [mdD ns cs] = ret .none := (hM _ (pl_md ns cs)).trans (if_pos h.mod)
    have e2 : cf ic [mdD ns cs, d] = thr xr := (hC ns cs _ h.cmb h1).trans (if_neg (by rw [h2]; exact Bool.false_ne_true))
    generalize mdD ns cs = md at *
    simp -implicitDefEqProofs [f_format_results, e1, e2]
end
end Ev

set_option Elab.async false
set_option linter.all false
set_option maxRecDepth 100000
set_option autoImplicit false
namespace Ev
open PySem
def kSigns : Tt := (Str.ofString "0123456789= \nnotpasfil").cps.toList
theorem y_signs : (Str.ofString "0123456789= \nnotpasfil" : Str) = sx kSigns := (sx_tl _).symm
theorem signs_ok : kSigns.length = 22 ∧ kSigns.all (· < 128) = true := by decide +kernel
abbrev LChg (cf : CF) (i : Nat) : Prop := ∀ l : Tt, Chs l → l.length ≤ 100000 → Ho Tn (cf i [scrD, obD 0, .str (sx l)]) fun d => ∃ l', d = .str (sx l') ∧ Chs l' ∧ l'.length ≤ l.length + 1
theorem ev_law_changed {cf : CF} {id_ : Nat} (fu : Nat) (hD : DrawOk cf id_) {l : Tt} (hc : Chs l) (hl : l.length ≤ 100000) : Ho Tn (runF cf fu (f_law_changed id_) [scrD, obD 0, .str (sx l)]) fun d => ∃ l', d = .str (sx l') ∧ Chs l' ∧ l'.length ≤ l.length + 1 := by
  rw [run_code cf fu (f := f_law_changed id_) rfl (s0 := [some (.i scrD), some (.i (obD 0)), some (.i (.str (sx l))), none, none, none]) rfl]
  have hln := tx_len (a := l) (by unfold LIM; omega)
  have hto := fun k => tx_to (l := l) (by unfold LIM; omega) k
  have hfr := fun k => tx_from (l := l) (by unfold LIM; omega) k
  have hsg : ∀ q : Int, 0 ≤ q → q < 22 → ∃ c, c < 128 ∧ ixD (.str (Str.ofString "0123456789= \nnotpasfil")) (.int q) = some (.str (sx [c])) := fun q q0 q1 => by
    obtain ⟨s1, s2⟩ := signs_ok
    have hlt : q.toNat < kSigns.length := by omega
    refine ⟨kSigns[q.toNat], ?_, ?_⟩
    · have := List.all_eq_true.mp s2 _ (List.getElem_mem hlt)
      exact of_decide_eq_true this
    · have := tx_ix (l := kSigns) (by rw [s1]; unfold LIM; omega) (List.getElem?_eq_getElem hlt)
      rw [show ((q.toNat : Nat) : Int) = q by omega, ← y_signs] at this
      exact this
  generalize htx : PyData.str (sx l) = TX at *
  simp -implicitDefEqProofs [f_law_changed, hln]
  refine Ho.bnd (hD ((l.length : Int) + 1) (by omega) (by omega)) ?_
  rintro dr ⟨r, rfl, r0, r1⟩
  obtain ⟨k, rfl⟩ : ∃ k : Nat, r = (k : Int) := ⟨r.toNat, by omega⟩
  have t1 := hto k
  have t2 := hfr k
  have t3 := hfr (k + 1)
  rw [show ((k + 1 : Nat) : Int) = (k : Int) + 1 by omega] at t3
  simp -implicitDefEqProofs [bindT]
  refine Ho.bnd (hD 22 (by decide) (by decide)) ?_
  rintro dq ⟨q, rfl, q0, q1⟩
  obtain ⟨c, hc128, hix⟩ := hsg q q0 q1
  have lt1 : (l.take k).length ≤ l.length := by rw [List.length_take]; omega
  have lt2 : (l.drop k).length ≤ l.length := by rw [List.length_drop]; omega
  have lt3 : (l.drop (k + 1)).length ≤ l.length := by rw [List.length_drop]; omega
  have a1 := tx_add (a := l.take k) (b := [c]) (by show _ + 1 ≤ LIM; unfold LIM; omega)
  have a2 := tx_add (a := l.take k ++ [c]) (b := l.drop k) (by rw [List.length_append]; show _ + 1 + _ ≤ LIM; unfold LIM; omega)
  have a3 := tx_add (a := l.take k) (b := l.drop (k + 1)) (by unfold LIM; omega)
  have a4 := tx_add (a := l.take k ++ [c]) (b := l.drop (k + 1)) (by rw [List.length_append]; show _ + 1 + _ ≤ LIM; unfold LIM; omega)
  have cc : Chs [c] := fun x hx => by rw [List.mem_singleton.mp hx]; exact hc128
  have p1 : Chs (l.take k ++ [c] ++ l.drop k) ∧ (l.take k ++ [c] ++ l.drop k).length ≤ l.length + 1 := ⟨((hc.take k).app cc).app (hc.drop k), by
    rw [List.length_append, List.length_append, List.length_take, List.length_drop]
    show min k l.length + 1 + _ ≤ _
    omega⟩
  have p2 : Chs (l.take k ++ l.drop (k + 1)) ∧ (l.take k ++ l.drop (k + 1)).length ≤ l.length + 1 := ⟨(hc.take k).app (hc.drop (k + 1)), by
    rw [List.length_append, List.length_take, List.length_drop]
    omega⟩
  have p3 : Chs (l.take k ++ [c] ++ l.drop (k + 1)) ∧ (l.take k ++ [c] ++ l.drop (k + 1)).length ≤ l.length + 1 := ⟨((hc.take k).app cc).app (hc.drop (k + 1)), by
    rw [List.length_append, List.length_append, List.length_take, List.length_drop]
    show min k l.length + 1 + _ ≤ _
    omega⟩
  generalize l.take k ++ [c] ++ l.drop k = e1 at *
  generalize l.take k ++ [c] ++ l.drop (k + 1) = e3 at *
  generalize l.take k ++ l.drop (k + 1) = e2 at *
  generalize l.take k ++ [c] = e0 at *
  simp -implicitDefEqProofs [bindT, hix, t1, t2, t3, a1, a2, a3, a4, mutS, LIM, intD]
  refine Ho.bnd (hD 3 (by decide) (by decide)) ?_
  rintro dz ⟨z, rfl, z0, z1⟩
  have hz : z = 0 ∨ z = 1 ∨ z = 2 := by omega
  rcases hz with rfl | rfl | rfl
  · have x : ixD (.list [.str (sx e1), .str (sx e2), .str (sx e3)]) (.int 0) = some (.str (sx e1)) := rfl
    simp -implicitDefEqProofs [x]
    exact Ho.ret ⟨e1, rfl, p1⟩
  · have x : ixD (.list [.str (sx e1), .str (sx e2), .str (sx e3)]) (.int 1) = some (.str (sx e2)) := rfl
    simp -implicitDefEqProofs [x]
    exact Ho.ret ⟨e2, rfl, p2⟩
  · have x : ixD (.list [.str (sx e1), .str (sx e2), .str (sx e3)]) (.int 2) = some (.str (sx e3)) := rfl
    simp -implicitDefEqProofs [x]
    exact Ho.ret ⟨e3, rfl, p3⟩
def tlS (y : Str) : Tt := y.cps.toList
def okT (l : Tt) : Bool := l.all (· < 128) && decide (l.length + 2 ≤ LIM)
theorem okT_iff {l : Tt} (h : okT l = true) : Chs l ∧ l.length + 2 ≤ LIM := by
  unfold okT at h
  rw [Bool.and_eq_true, decide_eq_true_eq, List.all_eq_true] at h
  exact ⟨fun c hc => of_decide_eq_true (h.1 c hc), h.2⟩
/-- a datum that is not the text of a thing, as p tells -/
def badD (p : Tt → Bool) : D → Bool
  | .str y => okT (tlS y) && p (tlS y)
  | d => ok2 d && !isTxD d
theorem badD_iff {p : Tt → Bool} {d : D} (h : badD p d = true) : (∃ l, d = .str (sx l) ∧ Chs l ∧ l.length + 2 ≤ LIM ∧ p l = true) ∨ (Pl d ∧ isTxD d = false) := by
  unfold badD at h
  split at h
  · rename_i y
    rw [Bool.and_eq_true] at h
    obtain ⟨h1, h2⟩ := okT_iff h.1
    exact .inl ⟨tlS y, congrArg PyData.str (sx_tl y).symm, h1, h2, h.2⟩
  · rw [Bool.and_eq_true, Bool.not_eq_true'] at h
    exact .inr h
def noM (l : Tt) : Bool := (mdL l).isNone
def noC (l : Tt) : Bool := (cmbL [2, 3] l).isNone
def noR (l : Tt) : Bool := (rssL [2, 3] [[(0, 1), (1, 2)]] l).isNone
def hM1 : List D := [.str "", .str "sizes 2\n", .str "sizes 2 2", .str "sizes 2  2\n", .str "sizes 2 2\nnot \n", .str "sizes 2 2\n\n", .str "size 2 2\n", .none]
def hM2 : List D := [.str "sizes 2 5\n", .str "sizes 02 2\n", .str "sizes 2 2\nnot 0=0 0=1\n", .str "sizes 2 2\nnot 1=0 0=0\n", .int 3]
def hM3 : List D := [.str "sizes 2 2\nnot 0=0\nnot 0=0\n", .str "sizes 2 2\n not 0=0\n", .str "sizes 2 2\nnot 0=2\n"]
def hM4 : List D := [.list [.str "sizes 2 2\n"], .str "sizes\n"]
def hC1 : List D := [.str "", .str "0=0 ", .str "0=0  1=0", .str "1=0 0=0", .str "0=2", .str "2=0", .str "0:0", .str "0=", .none, .tuple [.tuple [.int 0, .int 0]]]
def hR1 : List D := [.str "pass 0 0", .str "pass 1 2\n", .str "pass 0\n", .str "pass 0 0 \n", .str "\n", .str "Fail 0 0\n", .str "fail 0 3\n"]
def hR2 : List D := [.str (Txt.mul "pass 0 0\n" 21), .none]
theorem hM_bad : (hM1 ++ hM2 ++ hM3 ++ hM4).all (badD noM) = true := by decide +kernel
theorem hC_bad : hC1.all (badD noC) = true := by decide +kernel
theorem hR_bad : (hR1 ++ hR2).all (badD noR) = true := by decide +kernel
def hT20 : Tt := tlS (Txt.mul "pass 0 0\n" 20)
theorem hT20_ok : okT hT20 = true ∧ rssL [2, 3] [[(0, 1), (1, 2)]] hT20 = some (List.replicate 20 ([0, 0], false)) := by decide +kernel
theorem hT0_ok : rssL [2, 3] [[(0, 1), (1, 2)]] [] = some [] := by decide +kernel
def hTM : Tt := tlS "sizes 2 3\nnot 0=1 1=2\n"
theorem hTM_ok : okT hTM = true ∧ mdL hTM = some ([2, 3], [[(0, 1), (1, 2)]]) := by decide +kernel
theorem h_mod : isModelD (mdD [2, 3] [[(0, 1), (1, 2)]]) = true := by decide +kernel
end Ev

set_option Elab.async false
set_option linter.all false
set_option maxRecDepth 100000
set_option autoImplicit false
namespace Ev
open PySem
theorem res5' : resM resL (thr 5) = ret (.tuple [.str "text"]) := res_thr rfl
theorem pl_txt : Pl (.tuple [.str "text"]) := by show ok2 _ = true; decide +kernel
def JH1 (o : D) (s : Sl) : Prop := ∃ x1 : Option SV, s = [some (.i o), x1, none]
def JH2 (o m : D) (s : Sl) : Prop := ∃ x1 : Option SV, s = [some (.i o), x1, some (.i m)]
theorem lst_add (xs ys : List D) (h : xs.length + ys.length ≤ LIM) : opD .add (.list xs) (.list ys) = some (.list (xs ++ ys)) := if_pos h
abbrev LHand (cf : CF) (i : Nat) : Prop := cf i [] = ret (.bool true)
theorem ev_by_hand {cf : CF} {ipc ipm ipr xm : Nat} (fu : Nat) (hC : PCmb cf ipc 5) (hM : PMdl cf ipm 5) (hR : PRes cf ipr 5 xm) : runF cf fu (f_law_by_hand ipc ipm ipr) [] = ret (.bool true) := by
  rw [run_code cf fu (f := f_law_by_hand ipc ipm ipr) rfl (s0 := [none, none, none]) rfl]
  have hmc : MdC [2, 3] [[(0, 1), (1, 2)]] := mdC_of_mod h_mod
  have bM : ∀ d ∈ hM1 ++ hM2 ++ hM3 ++ hM4, cf ipm [d] = thr 5 := fun d hd => by
    rcases badD_iff (List.all_eq_true.mp hM_bad d hd) with ⟨l, rfl, h1, h2, h3⟩ | ⟨h1, h2⟩
    · rw [hM.ok l h1 h2]
      unfold noM at h3
      rw [Option.isNone_iff_eq_none.mp h3]
      rfl
    · exact hM.ns d h1 h2
  have bC : ∀ d ∈ hC1, cf ipc [mdD [2, 3] [[(0, 1), (1, 2)]], d] = thr 5 := fun d hd => by
    rcases badD_iff (List.all_eq_true.mp hC_bad d hd) with ⟨l, rfl, h1, h2, h3⟩ | ⟨h1, h2⟩
    · rw [hC.ok _ _ l h_mod h1 h2]
      unfold noC at h3
      rw [Option.isNone_iff_eq_none.mp h3]
      rfl
    · exact hC.ns _ _ d h_mod h1 h2
  have bR : ∀ d ∈ hR1 ++ hR2, cf ipr [mdD [2, 3] [[(0, 1), (1, 2)]], d] = thr 5 := fun d hd => by
    rcases badD_iff (List.all_eq_true.mp hR_bad d hd) with ⟨l, rfl, h1, h2, h3⟩ | ⟨h1, h2⟩
    · rw [hR.ok _ _ l hmc h1 h2]
      unfold noR at h3
      rw [Option.isNone_iff_eq_none.mp h3]
      rfl
    · exact hR.ns _ _ d hmc h1 h2
  have q20 : cf ipr [mdD [2, 3] [[(0, 1), (1, 2)]], .str (Txt.mul "pass 0 0\n" 20)] = ret (ressD (List.replicate 20 ([0, 0], false))) := by
    obtain ⟨h1, h2⟩ := okT_iff hT20_ok.1
    have := hR.ok _ _ hT20 hmc h1 h2
    rw [hT20_ok.2] at this
    have e : sx hT20 = Txt.mul "pass 0 0\n" 20 := sx_tl _
    rw [e] at this
    exact this
  have q0 : cf ipr [mdD [2, 3] [[(0, 1), (1, 2)]], .str ""] = ret (.tuple []) := by
    have := hR.ok _ _ [] hmc (fun c hc => nomatch hc) (by unfold LIM; decide)
    rw [hT0_ok, ← y_nil] at this
    exact this
  have qM : cf ipm [.str "sizes 2 3\nnot 0=1 1=2\n"] = ret (mdD [2, 3] [[(0, 1), (1, 2)]]) := by
    obtain ⟨h1, h2⟩ := okT_iff hTM_ok.1
    have := hM.ok hTM h1 h2
    rw [hTM_ok.2] at this
    have e : sx hTM = "sizes 2 3\nnot 0=1 1=2\n" := sx_tl _
    rw [e] at this
    exact this
  have emd : PyData.tuple [.tuple [.int 2, .int 3], .tuple [.tuple [.tuple [.int 0, .int 1], .tuple [.int 1, .int 2]]]] = mdD [2, 3] [[(0, 1), (1, 2)]] := rfl
  have nmd := eq_same (pl_md [2, 3] [[(0, 1), (1, 2)]])
  have nmd : opD .eq (mdD [2, 3] [[(0, 1), (1, 2)]]) (mdD [2, 3] [[(0, 1), (1, 2)]]) = some (.bool true) := by
    rw [op_eq (pl_md _ _) (pl_md _ _), eqv_self _ (pl_iff.mp (pl_md _ _)).1]
  generalize mdD [2, 3] [[(0, 1), (1, 2)]] = MD at *
  have l1 : ∀ s, evE cf (.lst (.cons (.str "") (.cons (.str "sizes 2\n") (.cons (.str "sizes 2 2") (.cons (.str "sizes 2  2\n") (.cons (.str "sizes 2 2\nnot \n") (.cons (.str "sizes 2 2\n\n") (.cons (.str "size 2 2\n") (.cons .none .nil))))))))) s = ret (.list hM1) := fun s => by
    simp -implicitDefEqProofs [LIM, hM1]
  have l2 : ∀ s, evE cf (.lst (.cons (.str "sizes 2 5\n") (.cons (.str "sizes 02 2\n") (.cons (.str "sizes 2 2\nnot 0=0 0=1\n") (.cons (.str "sizes 2 2\nnot 1=0 0=0\n") (.cons (.int 3) .nil)))))) s = ret (.list hM2) := fun s => by
    simp -implicitDefEqProofs [LIM, hM2]
  have l3 : ∀ s, evE cf (.lst (.cons (.str "sizes 2 2\nnot 0=0\nnot 0=0\n") (.cons (.str "sizes 2 2\n not 0=0\n") (.cons (.str "sizes 2 2\nnot 0=2\n") .nil)))) s = ret (.list hM3) := fun s => by
    simp -implicitDefEqProofs [LIM, hM3]
  have l4 : ∀ s, evE cf (.lst (.cons (.lst (.cons (.str "sizes 2 2\n") .nil)) (.cons (.str "sizes\n") .nil))) s = ret (.list hM4) := fun s => by
    simp -implicitDefEqProofs [LIM, hM4]
  have l5 : ∀ s, evE cf (.tup (.cons (.str "") (.cons (.str "0=0 ") (.cons (.str "0=0  1=0") (.cons (.str "1=0 0=0") (.cons (.str "0=2") (.cons (.str "2=0") (.cons (.str "0:0") (.cons (.str "0=") (.cons .none (.cons (.tup (.cons (.tup (.cons (.int 0) (.cons (.int 0) .nil))) .nil)) .nil))))))))))) s = ret (.tuple hC1) := fun s => by
    simp -implicitDefEqProofs [LIM, hC1]
  have l6 : ∀ s, evE cf (.lst (.cons (.str "pass 0 0") (.cons (.str "pass 1 2\n") (.cons (.str "pass 0\n") (.cons (.str "pass 0 0 \n") (.cons (.str "\n") (.cons (.str "Fail 0 0\n") (.cons (.str "fail 0 3\n") .nil)))))))) s = ret (.list hR1) := fun s => by
    simp -implicitDefEqProofs [LIM, hR1]
  have m21 : opD .mul (.str "pass 0 0\n") (.int 21) = some (.str (Txt.mul "pass 0 0\n" 21)) := by
    show (if 0 ≤ (21 : Int) ∧ (21 : Int) ≤ 1000 ∧ (Str.ofString "pass 0 0\n").length ≤ 1000 then some (PyData.str (Txt.mul (Str.ofString "pass 0 0\n") 21)) else none) = _
    rw [if_pos ⟨by decide, by decide, by decide +kernel⟩]
  have m20 : opD .mul (.str "pass 0 0\n") (.int 20) = some (.str (Txt.mul "pass 0 0\n" 20)) := by
    show (if 0 ≤ (20 : Int) ∧ (20 : Int) ≤ 1000 ∧ (Str.ofString "pass 0 0\n").length ≤ 1000 then some (PyData.str (Txt.mul (Str.ofString "pass 0 0\n") 20)) else none) = _
    rw [if_pos ⟨by decide, by decide, by decide +kernel⟩]
  have l7 : ∀ s, evE cf (.lst (.cons (.op .mul (.str "pass 0 0\n") (.int 21)) (.cons .none .nil))) s = ret (.list hR2) := fun s => by
    simp -implicitDefEqProofs [LIM, hR2, m21]
  have a1 := lst_add hM1 hM2 (by decide)
  have a2 := lst_add (hM1 ++ hM2) hM3 (by decide)
  have a3 := lst_add (hM1 ++ hM2 ++ hM3) hM4 (by decide)
  have a4 := lst_add hR1 hR2 (by decide)
  have mt : opD .mul (.tuple [.tuple [.tuple [.int 0, .int 0], .bool false]]) (.int 20) = some (ressD (List.replicate 20 ([0, 0], false))) := rfl
  have n20 := ne_same (pl_ress (List.replicate 20 ([0, 0], false)))
  generalize ressD (List.replicate 20 ([0, 0], false)) = R20 at *
  have n0 : (opD .ne (.tuple []) (.tuple [])).bind boolD = some false := ne_same pl_nil
  have nt : (opD .ne (.tuple [.str "text"]) (.tuple [.str "text"])).bind boolD = some false := ne_same pl_txt
  generalize hM1 ++ hM2 ++ hM3 ++ hM4 = LM at *
  generalize hM1 ++ hM2 ++ hM3 = LM3 at *
  generalize hM1 ++ hM2 = LM2 at *
  generalize hR1 ++ hR2 = LR at *
  generalize hM1 = LM1 at *
  generalize hM2 = LN2 at *
  generalize hM3 = LN3 at *
  generalize hM4 = LN4 at *
  generalize hC1 = LC at *
  generalize hR1 = LR1 at *
  generalize hR2 = LR2 at *
  have t1 : ∀ (o d : D) (s : Sl), d ∈ LM → JH1 o s → Pu (turnF cf fu (.name 1) (.cons (.ife (.cmp .ne (.lam resL (.call ipm (.cons (.var 1) .nil))) (.tup (.cons (.str "text") .nil))) (.cons (.ret .fa) .nil) .nil) .nil) d s) fun r => ∃ s', (r = .nx s' ∨ r = .ct s') ∧ JH1 o s' := by
    rintro o d s hd ⟨x1, rfl⟩
    have := bM d hd
    simp -implicitDefEqProofs [turnF, bindT, this, res5', LIM, nt]
    exact Pu.nx ⟨_, rfl⟩
  have t2 : ∀ (o d : D) (s : Sl), d ∈ LC → JH2 o MD s → Pu (turnF cf fu (.name 1) (.cons (.ife (.cmp .ne (.lam resL (.call ipc (.cons (.var 2) (.cons (.var 1) .nil)))) (.tup (.cons (.str "text") .nil))) (.cons (.ret .fa) .nil) .nil) .nil) d s) fun r => ∃ s', (r = .nx s' ∨ r = .ct s') ∧ JH2 o MD s' := by
    rintro o d s hd ⟨x1, rfl⟩
    have := bC d hd
    simp -implicitDefEqProofs [turnF, bindT, this, res5', LIM, nt]
    exact Pu.nx ⟨_, rfl⟩
  have t3 : ∀ (o d : D) (s : Sl), d ∈ LR → JH2 o MD s → Pu (turnF cf fu (.name 1) (.cons (.ife (.cmp .ne (.lam resL (.call ipr (.cons (.var 2) (.cons (.var 1) .nil)))) (.tup (.cons (.str "text") .nil))) (.cons (.ret .fa) .nil) .nil) .nil) d s) fun r => ∃ s', (r = .nx s' ∨ r = .ct s') ∧ JH2 o MD s' := by
    rintro o d s hd ⟨x1, rfl⟩
    have := bR d hd
    simp -implicitDefEqProofs [turnF, bindT, this, res5', LIM, nt]
    exact Pu.nx ⟨_, rfl⟩
  refine Pu.eq ?_
  simp -implicitDefEqProofs only [f_law_by_hand, b_cons, s_set, l1, m_bnd, m_lift, m_assoc, bindT, List.length_cons, List.length_nil, List.set_cons_zero, List.set_cons_succ, at_nx, e_op, e_pk, getP_zi, getP_s, l2, l3, a1, a2, if_true, Nat.reduceAdd, Nat.reduceLT, Nat.zero_lt_succ]
  simp -implicitDefEqProofs only [s_for, i_seq_, e_op, e_pk, getP_zi, l4, a3, m_bnd, m_lift, m_assoc, seqD]
  refine Pu.bnd (Pu.for (fun _ => JH1 (.list LM3)) ⟨none, rfl⟩ fun k d s hk hJ => t1 _ d s (List.mem_of_getElem? hk) hJ) ?_
  rintro r ⟨s', rfl, x1, rfl⟩
  have l8 : ∀ s, evE cf (.tup (.cons (.tup (.cons (.int 2) (.cons (.int 3) .nil))) (.cons (.tup (.cons (.tup (.cons (.tup (.cons (.int 0) (.cons (.int 1) .nil))) (.cons (.tup (.cons (.int 1) (.cons (.int 2) .nil))) .nil))) .nil)) .nil))) s = ret MD := fun s => by
    simp -implicitDefEqProofs [LIM, emd]
  have sq1 : seqD (.tuple LC) = some LC := rfl
  have sq2 : seqD (.list LR) = some LR := rfl
  simp -implicitDefEqProofs only [at_nx, b_cons, s_set, l8, m_bnd, m_lift, m_assoc, bindT, List.length_cons, List.length_nil, List.set_cons_zero, List.set_cons_succ, if_true, Nat.reduceAdd, Nat.reduceLT, s_for, i_seq_, l5, sq1]
  refine Pu.bnd (Pu.for (fun _ => JH2 (.list LM3) MD) ⟨x1, rfl⟩ fun k d s hk hJ => t2 _ d s (List.mem_of_getElem? hk) hJ) ?_
  rintro r ⟨s', rfl, x2, rfl⟩
  simp -implicitDefEqProofs only [at_nx, b_cons, s_set, l6, l7, a4, m_bnd, m_lift, m_assoc, bindT, List.length_cons, List.length_nil, List.set_cons_zero, List.set_cons_succ, if_true, Nat.reduceAdd, Nat.reduceLT, s_for, i_seq_, e_op, e_pk, getP_zi, Nat.zero_lt_succ, sq2]
  refine Pu.bnd (Pu.for (fun _ => JH2 (.list LR1) MD) ⟨x2, rfl⟩ fun k d s hk hJ => t3 _ d s (List.mem_of_getElem? hk) hJ) ?_
  rintro r ⟨s', rfl, x3, rfl⟩
  simp -implicitDefEqProofs [q0, n0, m20, q20, mt, n20, qM, nmd, LIM]
  exact Pu.ret rfl
end Ev

set_option Elab.async false
set_option linter.all false
set_option maxRecDepth 100000
set_option autoImplicit false
namespace Ev
open PySem
structure K32Ok (cf : CF) (ib ih ich icm il im ip ir it itx ifc ifm ifr ipc ipm ipr : Nat) : Prop where
  beg : ∀ tl, cf ib [] (.non :: tl) = .ok (obD 0) (.town 0 [] :: tl)
  hnd : LHand cf ih
  chg : LChg cf ich
  cmb : CombinOk cf icm
  lin : RsTx cf il
  mod : ModelDraw cf im
  prs : CmbT cf ip
  res : LRes cf ir
  tst : LTests cf it
  txt : MdlT cf itx
  fc : FmC cf ifc 2
  fm : FmM cf ifm 0
  fr : FmR cf ifr 8
  pc : PCmb cf ipc 5
  pm : PMdl cf ipm 5
  pr : PRes cf ipr 5 0
theorem depth_ressT (rs : Rs) : (ressD rs).depth ≤ 3 := by
  show PyData.depthAll (rs.map rsD) + 1 ≤ 3
  have : PyData.depthAll (rs.map rsD) ≤ 2 := by
    rw [depth_all]
    intro x hx
    obtain ⟨r, _, rfl⟩ := List.mem_map.mp hx
    show PyData.depthAll [tsD r.1, .bool r.2] + 1 ≤ 2
    have h1 := depth_ts r.1
    have : PyData.depthAll [tsD r.1, .bool r.2] ≤ 1 := by
      rw [depth_all]
      intro y hy
      simp only [List.mem_cons, List.not_mem_nil, or_false] at hy
      rcases hy with rfl | rfl
      · exact h1
      · exact Nat.zero_le _
    omega
  omega
theorem res2' : resM resL (thr 2) = ret (.tuple [.str "combination"]) := res_thr rfl
theorem ne_ret {d : D} (h : Pl d) (h3 : d.depth ≤ 20) : (opD .ne (.tuple [.str "returns", d]) (.tuple [.str "text"])).bind boolD = some true := by
  have h1 : Pl (.tuple [.str "returns", d]) := pl_tup (n := 20) (by decide) fun x hx => by
    simp only [List.mem_cons, List.not_mem_nil, or_false] at hx
    rcases hx with rfl | rfl
    · exact ⟨by show ok2 _ = true; decide +kernel, Nat.zero_le _⟩
    · exact ⟨h, h3⟩
  rw [op_ne h1 pl_txt]
  simp [PyData.eqv, PyData.eqvAll, boolD]
theorem ne_rr : (opD .ne (.str "returns") (.str "returns")).bind boolD = some false := ne_same (by show ok2 _ = true; decide +kernel)
theorem ne_tt : (opD .ne (.tuple [.str "text"]) (.tuple [.str "text"])).bind boolD = some false := ne_same pl_txt
/-- what came of a text: the error, or a thing whose text it is -/
theorem back_ok {α : Type} {x : M D} {o : Option α} (k : α → D) (hx : x = orT 5 (fun a => ret (k a)) o) : ∃ v, resM resL x = ret v ∧ (v = .tuple [.str "text"] ∨ ∃ a, o = some a ∧ v = .tuple [.str "returns", k a]) := by
  subst hx
  cases o with
  | none => exact ⟨_, res5', .inl rfl⟩
  | some a => exact ⟨_, rfl, .inr ⟨a, rfl, rfl⟩⟩
def JK32 (md cd td rd one two three : D) (s : Sl) : Prop := ∃ x9 x10 x11 x12 : Option SV, s = [some (.i scrD), some (.i (obD 0)), some (.i md), some (.i cd), some (.i td), some (.i rd), some (.i one), some (.i two), some (.i three), x9, x10, x11, x12]
/-- one turn: the three texts are changed, and read -/
theorem k32_turn {cf : CF} {ib ih ich icm il im ip ir it itx ifc ifm ifr ipc ipm ipr : Nat} (fu : Nat) (h : K32Ok cf ib ih ich icm il im ip ir it itx ifc ifm ifr ipc ipm ipr) {ns : List Int} {cs : List Prs} (hm : MdC ns cs) {md cd td rd t1 t2 t3 : D} (hmd : mdD ns cs = md)
    (hch : ∀ y ∈ [t1, t2, t3], Ho Tn (cf ich [scrD, obD 0, y]) fun d => ∃ l', d = .str (sx l') ∧ Chs l' ∧ l'.length ≤ 1000) : ∀ (d : D) (s : Sl), JK32 md cd td rd t1 t2 t3 s → Ho Tn (turnF cf fu (.name 9) (.cons (.set (.name 10) (.comp (.call ich (.cons (.var 0) (.cons (.var 1) (.cons (.var 12) .nil)))) (.name 12) (.seq (.tup (.cons (.var 6) (.cons (.var 7) (.cons (.var 8) .nil))))) .yes [12])) (.cons (.set (.name 11) (.lam resL (.call ipm (.cons (.ix (.pk 10) (.int 0)) .nil)))) (.cons (.ife (.and (.cmp .ne (.pk 11) (.tup (.cons (.str "text") .nil))) (.or (.cmp .ne (.ix (.pk 11) (.int 0)) (.str "returns")) (.cmp .ne (.call itx (.cons (.ix (.pk 11) (.int 1)) .nil)) (.ix (.pk 10) (.int 0))))) (.cons (.ret .fa) .nil) .nil) (.cons (.set (.name 11) (.lam resL (.call ipc (.cons (.var 2) (.cons (.ix (.pk 10) (.int 1)) .nil))))) (.cons (.ife (.and (.cmp .ne (.pk 11) (.tup (.cons (.str "text") .nil))) (.or (.cmp .ne (.ix (.pk 11) (.int 0)) (.str "returns")) (.cmp .ne (.call ip (.cons (.ix (.pk 11) (.int 1)) .nil)) (.ix (.pk 10) (.int 1))))) (.cons (.ret .fa) .nil) .nil) (.cons (.set (.name 11) (.lam resL (.call ipr (.cons (.var 2) (.cons (.ix (.pk 10) (.int 2)) .nil))))) (.cons (.ife (.and (.cmp .ne (.pk 11) (.tup (.cons (.str "text") .nil))) (.or (.cmp .ne (.ix (.pk 11) (.int 0)) (.str "returns")) (.cmp .ne (.call il (.cons (.ix (.pk 11) (.int 1)) .nil)) (.ix (.pk 10) (.int 2))))) (.cons (.ret .fa) .nil) .nil) .nil))))))) d s) fun r => ∃ s', (r = .nx s' ∨ r = .ct s') ∧ JK32 md cd td rd t1 t2 t3 s' := by
  have pmk := fun l h1 h2 => h.pm.ok l h1 h2
  have pck := fun l h1 h2 => h.pc.ok ns cs l hm.mod h1 h2
  have prk := fun l h1 h2 => h.pr.ok ns cs l hm h1 h2
  rw [hmd] at pck prk
  rintro d s ⟨x9, x10, x11, x12, rfl⟩
  have hL3 : (3 : Nat) ≤ LIM := by unfold LIM; omega
  have hL1 : (1 : Nat) ≤ LIM := by unfold LIM; omega
  have sq : seqD (.tuple [t1, t2, t3]) = some [t1, t2, t3] := rfl
  simp -implicitDefEqProofs only [turnF, bindT, List.length_cons, List.length_nil, Nat.reduceAdd, Nat.reduceLT, if_true, List.set_cons_succ, List.set_cons_zero, m_lift, m_bnd, b_cons, s_set, evE_comp, i_seq_, e_tup, es_cons, es_nil, e_var, getI_s, getI_z, m_assoc, hL3, Nat.zero_add, sq]
  refine Ho.bnd ((ho_comp (P := fun x => ∃ l, x = .str (sx l) ∧ Chs l ∧ l.length ≤ 1000) [t1, t2, t3] fun y hy => ?_).nox) ?_
  · have hgo := hch y hy
    simp -implicitDefEqProofs only [turnC, wipeA, bindT, List.length_cons, List.length_nil, Nat.reduceAdd, Nat.reduceLT, if_true, List.set_cons_succ, List.set_cons_zero, m_lift, m_bnd, ts_yes, e_call, es_cons, es_nil, e_var, getI_s, getI_z, m_assoc]
    exact Ho.bnd hgo fun x hx => Ho.ret ⟨x, rfl, hx⟩
  · rintro xs ⟨hxl, hx⟩
    obtain ⟨A, B, C, rfl⟩ : ∃ A B C, xs = [A, B, C] := by
      match xs, hxl with
      | [A, B, C], _ => exact ⟨A, B, C, rfl⟩
    obtain ⟨la, rfl, ca, na⟩ := hx A (by simp)
    obtain ⟨lb, rfl, cb', nb⟩ := hx B (by simp)
    obtain ⟨lc, rfl, cc', nc⟩ := hx C (by simp)
    have i0 : ixD (.list [.str (sx la), .str (sx lb), .str (sx lc)]) (.int 0) = some (.str (sx la)) := rfl
    have i1 : ixD (.list [.str (sx la), .str (sx lb), .str (sx lc)]) (.int 1) = some (.str (sx lb)) := rfl
    have i2 : ixD (.list [.str (sx la), .str (sx lb), .str (sx lc)]) (.int 2) = some (.str (sx lc)) := rfl
    obtain ⟨va, ra, oa⟩ := back_ok (fun m : List Int × List Prs => mdD m.1 m.2) (pmk la ca (by unfold LIM; omega))
    obtain ⟨vb, rb, ob⟩ := back_ok cbD (pck lb cb' (by unfold LIM; omega))
    obtain ⟨vc, rc, oc⟩ := back_ok ressD (prk lc cc' (by unfold LIM; omega))
    have na1 := ne_same (pl_sx ca)
    have nb1 := ne_same (pl_sx cb')
    have nc1 := ne_same (pl_sx cc')
    have hV : ∀ v u : D, ixD (.tuple [.str "returns", v]) (.int 0) = some (.str "returns") ∧ ixD (.tuple [.str "returns", v]) (.int 1) = some v := fun _ _ => ⟨rfl, rfl⟩
    -- the three tests
    have ta : ∀ y12 : Option SV, evT cf (.and (.cmp .ne (.pk 11) (.tup (.cons (.str "text") .nil))) (.or (.cmp .ne (.ix (.pk 11) (.int 0)) (.str "returns")) (.cmp .ne (.call itx (.cons (.ix (.pk 11) (.int 1)) .nil)) (.ix (.pk 10) (.int 0))))) [some (.i scrD), some (.i (obD 0)), some (.i md), some (.i cd), some (.i td), some (.i rd), some (.i t1), some (.i t2), some (.i t3), some (.i d), some (.i (.list [.str (sx la), .str (sx lb), .str (sx lc)])), some (.i va), y12] = ret false := fun y12 => by
      rcases oa with rfl | ⟨⟨ns', cs'⟩, e, rfl⟩
      · simp -implicitDefEqProofs only [t_and, t_cmp, e_pk, getP_s, getP_zi, m_lift, m_bnd, e_tup, es_cons, es_nil, e_str, List.length_cons, List.length_nil, Nat.zero_add, hL1, if_true, ne_tt, Bool.false_eq_true, if_false]
      · obtain ⟨hmod, hT'⟩ := mdL_some e
        have hm' := mdC_of_mod hmod
        have q1 := h.txt ns' cs' hm'.tx
        rw [hT'] at q1
        have q2 := ne_ret (pl_md ns' cs') (Nat.le_trans (depth_md ns' cs') (by decide))
        have q3 := (hV (mdD ns' cs') .none).1
        have q4 := (hV (mdD ns' cs') .none).2
        generalize mdD ns' cs' = M' at *
        simp -implicitDefEqProofs only [t_and, t_or, t_cmp, e_pk, e_ix, e_int, e_call, getP_s, getP_zi, m_lift, m_bnd, e_tup, es_cons, es_nil, e_str, List.length_cons, List.length_nil, Nat.zero_add, hL1, if_true, q1, q2, q3, q4, i0, na1, ne_rr, Bool.false_eq_true, if_false]
    have tb : ∀ y12 : Option SV, evT cf (.and (.cmp .ne (.pk 11) (.tup (.cons (.str "text") .nil))) (.or (.cmp .ne (.ix (.pk 11) (.int 0)) (.str "returns")) (.cmp .ne (.call ip (.cons (.ix (.pk 11) (.int 1)) .nil)) (.ix (.pk 10) (.int 1))))) [some (.i scrD), some (.i (obD 0)), some (.i md), some (.i cd), some (.i td), some (.i rd), some (.i t1), some (.i t2), some (.i t3), some (.i d), some (.i (.list [.str (sx la), .str (sx lb), .str (sx lc)])), some (.i vb), y12] = ret false := fun y12 => by
      rcases ob with rfl | ⟨c', e, rfl⟩
      · simp -implicitDefEqProofs only [t_and, t_cmp, e_pk, getP_s, getP_zi, m_lift, m_bnd, e_tup, es_cons, es_nil, e_str, List.length_cons, List.length_nil, Nat.zero_add, hL1, if_true, ne_tt, Bool.false_eq_true, if_false]
      · obtain ⟨hcb', hd', hT'⟩ := cmbL_some e
        have q1 := h.prs c' hd' (cb_dig hm hcb').2.2
        rw [hT'] at q1
        have q2 := ne_ret (pl_cb c') (Nat.le_trans (depth_cb c') (by decide))
        have q3 := (hV (cbD c') .none).1
        have q4 := (hV (cbD c') .none).2
        generalize cbD c' = M' at *
        simp -implicitDefEqProofs only [t_and, t_or, t_cmp, e_pk, e_ix, e_int, e_call, getP_s, getP_zi, m_lift, m_bnd, e_tup, es_cons, es_nil, e_str, List.length_cons, List.length_nil, Nat.zero_add, hL1, if_true, q1, q2, q3, q4, i1, nb1, ne_rr, Bool.false_eq_true, if_false]
    have tc : ∀ y12 : Option SV, evT cf (.and (.cmp .ne (.pk 11) (.tup (.cons (.str "text") .nil))) (.or (.cmp .ne (.ix (.pk 11) (.int 0)) (.str "returns")) (.cmp .ne (.call il (.cons (.ix (.pk 11) (.int 1)) .nil)) (.ix (.pk 10) (.int 2))))) [some (.i scrD), some (.i (obD 0)), some (.i md), some (.i cd), some (.i td), some (.i rd), some (.i t1), some (.i t2), some (.i t3), some (.i d), some (.i (.list [.str (sx la), .str (sx lb), .str (sx lc)])), some (.i vc), y12] = ret false := fun y12 => by
      rcases oc with rfl | ⟨rs', e, rfl⟩
      · simp -implicitDefEqProofs only [t_and, t_cmp, e_pk, getP_s, getP_zi, m_lift, m_bnd, e_tup, es_cons, es_nil, e_str, List.length_cons, List.length_nil, Nat.zero_add, hL1, if_true, ne_tt, Bool.false_eq_true, if_false]
      · obtain ⟨hd', hT'⟩ := rssL_some hm e
        have q1 := h.lin rs' hd'
        rw [hT'] at q1
        have q2 := ne_ret (pl_ress rs') (Nat.le_trans (depth_ressT rs') (by decide))
        have q3 := (hV (ressD rs') .none).1
        have q4 := (hV (ressD rs') .none).2
        generalize ressD rs' = M' at *
        simp -implicitDefEqProofs only [t_and, t_or, t_cmp, e_pk, e_ix, e_int, e_call, getP_s, getP_zi, m_lift, m_bnd, e_tup, es_cons, es_nil, e_str, List.length_cons, List.length_nil, Nat.zero_add, hL1, if_true, q1, q2, q3, q4, i2, nc1, ne_rr, Bool.false_eq_true, if_false]
    simp -implicitDefEqProofs only [bindT, List.length_cons, List.length_nil, Nat.reduceAdd, Nat.reduceLT, if_true, List.set_cons_succ, List.set_cons_zero, m_lift, m_bnd, at_nx, b_cons, b_nil, s_set, s_ife, e_lam, e_call, e_ix, e_int, es_cons, es_nil, e_var, e_pk, getI_s, getI_z, getP_s, getP_zi, m_assoc, i0, i1, i2, ra, rb, rc, ta, tb, tc, Bool.false_eq_true, if_false]
    exact Ho.nx ⟨_, _, _, _, rfl⟩
theorem ev_k32 {cf : CF} {ib ih ich icm il im ip ir it itx ifc ifm ifr ipc ipm ipr : Nat} (fu : Nat) (h : K32Ok cf ib ih ich icm il im ip ir it itx ifc ifm ifr ipc ipm ipr) (tl : W) :
    ∃ w, runF cf fu (f_law_k32 ib ih ich icm il im ip ir it itx ifc ifm ifr ipc ipm ipr) [scrD] (.non :: tl) = .ok (.bool true) w := by
  rw [run_code cf fu (f := f_law_k32 ib ih ich icm il im ip ir it itx ifc ifm ifr ipc ipm ipr) rfl (s0 := [some (.i scrD), none, none, none, none, none, none, none, none, none, none, none, none]) rfl]
  simp -implicitDefEqProofs only [f_law_k32, b_cons, s_set, e_call, es_nil, m_bnd, m_assoc]
  refine ho_begin (β := D) (h.beg tl) ?_
  simp -implicitDefEqProofs only [bindT, List.length_cons, List.length_nil, Nat.reduceAdd, Nat.reduceLT, if_true, List.set_cons_succ, List.set_cons_zero, m_lift, m_bnd, at_nx, b_cons, s_set, e_call, es_cons, es_nil, e_var, e_int, getI_s, getI_z, m_assoc]
  refine Ho.bnd (h.mod 5 4 3 (by decide) (by decide) (by decide) (by decide) (by decide)) ?_
  rintro dm ⟨ns, cs, rfl, hok, hc3⟩
  have hm : MdC ns cs := mdC_of hok (by decide) (by decide) (by decide)
  have hl2 := hm.l2
  have hl5 := hm.len
  have hne : ns ≠ [] := fun e => by rw [e] at hl2; simp at hl2
  have hsm : Small ns := small_of (by omega) fun n hn => by have := hm.siz n hn; omega
  have x0 : ixD (mdD ns cs) (.int 0) = some (szD ns) := rfl
  simp -implicitDefEqProofs only [bindT, List.length_cons, List.length_nil, Nat.reduceAdd, Nat.reduceLT, if_true, List.set_cons_succ, List.set_cons_zero, m_lift, m_bnd, at_nx, b_cons, s_set, e_call, es_cons, es_nil, e_var, e_int, e_ix, e_pk, getP_s, getP_zi, getI_s, getI_z, m_assoc, x0]
  refine Ho.bnd (h.cmb ns 4 hne (fun n hn => by have := hm.siz n hn; omega) (by omega) (by decide) (by decide)) ?_
  rintro dc ⟨c, rfl, hcb, hc4⟩
  have hT := h.tst ns cs hne hsm hm.rng
  obtain ⟨v1, v2⟩ := vts_rows (cs := cs) hm.sml
  have hyin : HyIn (vts ns cs) [c] := fun t ht c' hc' p hp => by
    rw [List.mem_singleton.mp hc'] at hp
    obtain ⟨a1, a2, _, _⟩ := hcb.rng p hp
    rw [(mem_vts.mp ht).1.1]
    exact ⟨a1, a2⟩
  have z1 : (1 : Nat) ≤ LIM := by unfold LIM; omega
  have ehy : PyData.tuple [cbD c] = hyD [c] := rfl
  simp -implicitDefEqProofs only [bindT, List.length_cons, List.length_nil, Nat.reduceAdd, Nat.reduceLT, if_true, List.set_cons_succ, List.set_cons_zero, m_lift, m_bnd, at_nx, b_cons, s_set, e_call, e_tup, es_cons, es_nil, e_var, e_int, getI_s, getI_z, m_assoc, hT, Nat.zero_add, z1, ehy]
  refine Ho.bnd (h.res (vts ns cs) [c] 5 (by decide) (by decide) (by omega) hyin) ?_
  rintro dr ⟨rs, rfl, hri, hrl⟩
  have hrt : ∀ r ∈ rs, isTestD ns cs (tsD r.1) = true := fun r hr => test_vts (hri r hr)
  have hrl20 : rs.length ≤ 20 := by omega
  obtain ⟨hback, hrtx⟩ := rssL_of hm hrl20 hrt
  obtain ⟨cd1, cd2, cd3⟩ := cb_dig hm hcb
  have w1 := h.txt ns cs hm.tx
  have w2 := h.prs c cd1 cd3
  have w3 := h.lin rs hrtx
  have g1 := h.fm.ok ns cs hm
  have g2 := h.fc.ok ns cs c hm hcb
  have g3 := h.fr.ok ns cs rs hm hrl20 hrt
  have k1c := chs_mdT hm.tx
  have k2c := chs_prsT cd1
  have k3c := chs_resT hrtx
  have k1l := mdT_len hm.tx
  have k2l := prsT_len cd3
  have k3l := resT_len hrtx
  have p1 := h.pm.ok (mdT ns cs) k1c (by unfold LIM; omega)
  rw [mdL_of hm] at p1
  have p2 := h.pc.ok ns cs (prsT c) hm.mod k2c (by unfold LIM; omega)
  rw [cmbL_of hm hcb] at p2
  have p3 := h.pr.ok ns cs (resT rs) hm k3c (by unfold LIM; omega)
  rw [hback] at p3
  have p1 : cf ipm [.str (sx (mdT ns cs))] = ret (mdD ns cs) := p1
  have p2 : cf ipc [mdD ns cs, .str (sx (prsT c))] = ret (cbD c) := p2
  have p3 : cf ipr [mdD ns cs, .str (sx (resT rs))] = ret (ressD rs) := p3
  have n1 := ne_same (pl_sx k1c)
  have n2 := ne_same (pl_sx k2c)
  have n3 := ne_same (pl_sx k3c)
  have n4 := ne_same (pl_md ns cs)
  have n5 := ne_same (pl_cb c)
  have n6 := ne_same (pl_ress rs)
  have g2' : ∀ a b : E, appEs (.cons a .nil) (.cons b .nil) = .cons a (.cons b .nil) := fun _ _ => rfl
  have chg1 := h.chg (mdT ns cs) k1c (by omega)
  have chg2 := h.chg (prsT c) k2c (by omega)
  have chg3 := h.chg (resT rs) k3c (by omega)
  have er1 := h.fm.bad .none pl_none rfl
  have er2 := h.fc.bad ns cs (.tuple []) hm pl_nil rfl
  have er3 := h.fr.bad ns cs .none hm pl_none rfl
  have er4 := h.pr.md (.tuple []) (.str "") pl_nil rfl
  generalize htd : PyData.list ((vts ns cs).map tsD) = td at *
  generalize hmd : mdD ns cs = md at *
  generalize hcd : cbD c = cd at *
  generalize hrd : ressD rs = rd at *
  obtain ⟨t1, ht1⟩ : ∃ t, PyData.str (sx (mdT ns cs)) = t := ⟨_, rfl⟩
  obtain ⟨t2, ht2⟩ : ∃ t, PyData.str (sx (prsT c)) = t := ⟨_, rfl⟩
  obtain ⟨t3, ht3⟩ : ∃ t, PyData.str (sx (resT rs)) = t := ⟨_, rfl⟩
  rw [ht1] at w1 g1 p1 n1 chg1
  rw [ht2] at w2 g2 p2 n2 chg2
  rw [ht3] at w3 g3 p3 n3 chg3
  have hch : ∀ y ∈ [t1, t2, t3], Ho Tn (cf ich [scrD, obD 0, y]) fun d => ∃ l', d = .str (sx l') ∧ Chs l' ∧ l'.length ≤ 1000 := fun y hy => by
    simp only [List.mem_cons, List.not_mem_nil, or_false] at hy
    rcases hy with rfl | rfl | rfl
    · exact chg1.imp fun d ⟨l', e, a, b⟩ => ⟨l', e, a, by omega⟩
    · exact chg2.imp fun d ⟨l', e, a, b⟩ => ⟨l', e, a, by omega⟩
    · exact chg3.imp fun d ⟨l', e, a, b⟩ => ⟨l', e, a, by omega⟩
  simp -implicitDefEqProofs only [bindT, List.length_cons, List.length_nil, Nat.reduceAdd, Nat.reduceLT, if_true, List.set_cons_succ, List.set_cons_zero, m_lift, m_bnd, at_nx, b_cons, b_nil, s_set, s_par, slotV_f, and_self, e_call, es_cons, es_nil, e_var, e_pk, e_int, getI_s, getI_z, getP_s, getP_zi, m_assoc, w1, w2, w3, s_ife, t_or, t_cmp, g1, g2, g3, p1, p2, p3, n1, n2, n3, n4, n5, n6, g2', Bool.false_eq_true, if_false, s_for, i_range1_, intD, range_ok (n := 6) (by decide) (by decide)]
  refine Ho.bnd (Ho.for (fun _ => JK32 md cd td rd t1 t2 t3) ⟨none, none, none, none, rfl⟩ fun k d s _ hJ => k32_turn fu h hm hmd hch d s hJ) ?_
  rintro r ⟨s', rfl, x9, x10, x11, x12, rfl⟩
  have a1 : (opD .ne (.list [.tuple [.str "model"], .tuple [.str "combination"], .tuple [.str "results"], .tuple [.str "model"]]) (.list [.tuple [.str "model"], .tuple [.str "combination"], .tuple [.str "results"], .tuple [.str "model"]])).bind boolD = some false := ne_same (by show ok2 _ = true; decide +kernel)
  simp -implicitDefEqProofs [mutS, LIM, er1, er2, er3, er4, res0, res2', res8, a1, h.hnd]
  exact Ho.ret rfl
end Ev

set_option Elab.async false
set_option linter.all false
set_option maxRecDepth 100000
namespace K32
open PySem PySem.Spec PyProof.Rows L2 Ev
def topS (i : Nat) : Stmt := PySem.Challenge.pw_faultcover_k32_texts.main.body.getD i (.Pass ⟨0, 0, 0, 0⟩)
def tbf0 : List (Str × List Str) := [("_law_begun", []), ("_law_draw", ["script", "town", "many"]), ("_law_combination", ["script", "town", "sizes", "most"]), ("_law_model", ["script", "town", "many", "values", "rules"]), ("_law_has", ["test", "combination_here"]), ("_law_tests", ["model_here"]), ("_law_fails", ["hypothesis", "test"]), ("_law_results", ["script", "town", "tests", "hypothesis", "most"]), ("_law_lines", ["results_here"]), ("is_ascending", ["values"]), ("is_integer", ["value"]), ("is_pair_of", ["sizes", "value"]), ("is_combination_of", ["sizes", "value"]), ("is_model", ["value"]), ("check_model", ["model"]), ("check_text", ["text"]), ("rows_of", ["text"]), ("number_of", ["text"]), ("read_numbers", ["text"]), ("has_all", ["test", "combination"])]
def tbf1 : List (Str × List Str) := [("is_test_of", ["model", "value"]), ("is_result", ["model", "value"]), ("parse_results", ["model", "text"]), ("read_pairs", ["text"]), ("parse_model", ["text"]), ("_law_result", ["call"]), ("parse_combination", ["model", "text"]), ("_law_by_hand", []), ("_law_pairs", ["combination_here"]), ("_law_text", ["model_here"]), ("check_combination", ["model", "combination"]), ("combination_text", ["combination"]), ("format_combination", ["model", "combination"]), ("check_results", ["model", "results"]), ("numbers_text", ["numbers"]), ("results_text", ["results"]), ("format_results", ["model", "results"]), ("model_text", ["model"]), ("format_model", ["model"]), ("_law_changed", ["script", "town", "text_here"])]
def tbf2 : List (Str × List Str) := [("law", ["script"])]
def tb : Tb := ⟨tbf0 ++ tbf1 ++ tbf2, ["isinstance", "ValueError", "len", "range", "tuple", "sorted", "set", "str", "all", "zip", "bool", "int", "any"], [("RULES", 8), ("RESULTS", 20)], ["InvalidModel", "InvalidTest", "InvalidCombination", "InvalidSuite", "InvalidStrength", "InvalidText", "InvalidHypothesis", "InvalidNumber", "InvalidResults", "InvalidIndex", "TooLarge", "TooMany", "Unexplained", "Same", "Contradiction", "InUse", "NothingToUndo", "TestError"], [(24, 0), (38, 0), (32, 1), (26, 1), (36, 1), (22, 1)], 41, "", [], false⟩
def n2 : List Str := ["script", "town", "sizes", "most", "found", "k", "parameter"]
def c2 : Fn := f_law_combination 1
theorem d2 {fd : Nat → FuncData} {ca : Nat → Addr} {b : Bx} {cf : CF} {k fu : Nat} {X : Cx} (O : Ok tb fd ca b cf k X n2 (defScope (topS 54)) (fun _ => true)) (po : PassesOwn (model X.prog X.w) X.A X.env X.xe) : PSs X (defBody (topS 54)) (rS b (evB cf fu c2.body)) :=
  sb_cons (g_setM O sf_dnew) (sb_cons (g_for O po (i_range1 O (rE.toR (g_add (rE.toR g_int) (rE.toR (g_call O (g_cons (g_var O) (g_cons (g_var O) (g_cons (g_var O) g_nil)))))))) (g_name O) (sb_cons (g_set O (g_call O (g_cons (g_var O) (g_cons (g_var O) (g_cons (g_len O (g_pk O)) g_nil))))) (sb_cons (g_dput O (g_var O) (g_call O (g_cons (g_var O) (g_cons (g_var O) (g_cons (g_ix O (g_pk O) (g_pk O)) g_nil))))) sb_nil))) (sb_cons (ss_ret (g_tuple O (rE.toR (g_sitems O (g_pk O))))) sb_nil))
def n3 : List Str := ["script", "town", "many", "values", "rules", "sizes", "some", "k", "one"]
def c3 : Fn := f_law_model 2 1
theorem d3 {fd : Nat → FuncData} {ca : Nat → Addr} {b : Bx} {cf : CF} {k fu : Nat} {X : Cx} (O : Ok tb fd ca b cf k X n3 (defScope (topS 55)) (fun _ => true)) (po : PassesOwn (model X.prog X.w) X.A X.env X.xe) : PSs X (defBody (topS 55)) (rS b (evB cf fu c3.body)) :=
  sb_cons (g_set O (g_tuple O (rE.toR (g_comp O (own := [("k", 7)]) (i_range1 O (rE.toR (g_add (rE.toR g_int) (rE.toR (g_call O (g_cons (g_var O) (g_cons (g_var O) (g_cons (g_sub (g_pk O) (rE.toR g_int)) g_nil)))))))) (fun X O => g_name O) (fun X O => g_yes) (fun X O => g_add (rE.toR g_int) (rE.toR (g_call O (g_cons (g_var O) (g_cons (g_var O) (g_cons (g_sub (g_pk O) (rE.toR g_int)) g_nil)))))))))) (sb_cons (g_setL O (own := [("k", 7)]) (i_range1 O (rE.toR (g_call O (g_cons (g_var O) (g_cons (g_var O) (g_cons (g_add (g_pk O) (rE.toR g_int)) g_nil)))))) (fun X O => g_name O) (fun X O => g_yes) (fun X O => g_call O (g_cons (g_var O) (g_cons (g_var O) (g_cons (g_var O) (g_cons g_int g_nil)))))) (sb_cons (ss_ret (se_tup (g_cons (g_var O) (g_cons (g_tuple O (rE.toR (g_sset O (rE.toR (g_comp O (own := [("one", 8)]) (i_seq (g_var O)) (fun X O => g_name O) (fun X O => g_one (PW.pt (sw_or (q_cmp O.gt (rE.toR (g_len O (g_pk O))) (rE.toR g_int)) (pw_or1 (q_cmp O.eq (rE.toR (g_call O (g_cons (g_var O) (g_cons (g_var O) (g_cons g_int g_nil))))) (rE.toR g_int)))))) (fun X O => g_var O)))))) g_nil)))) sb_nil))
def n4 : List Str := ["test", "combination_here", "parameter", "value"]
def c4 : Fn := f_law_has
theorem d4 {fd : Nat → FuncData} {ca : Nat → Addr} {b : Bx} {cf : CF} {k fu : Nat} {X : Cx} (O : Ok tb fd ca b cf k X n4 (defScope (topS 56)) (fun _ => true)) (po : PassesOwn (model X.prog X.w) X.A X.env X.xe) : PSs X (defBody (topS 56)) (rS b (evB cf fu c4.body)) :=
  sb_cons (ss_ret (g_cmp O.eq (rE.toR (g_comp O (own := [("parameter", 2), ("value", 3)]) (i_seq (g_var O)) (fun X O => g_ttup O (g_tcons (g_name O) (g_tcons (g_name O) sgs_nil))) (fun X O => g_one (q_cmp O.ne (rE.toR (g_ix O (g_pk O) (g_pk O))) (g_pk O))) (fun X O => g_int))) (rE.toR (se_lst g_nil)))) sb_nil
def n5 : List Str := ["model_here", "rows", "size", "longer", "value", "row", "rule"]
def c5 : Fn := f_law_tests 4
theorem d5 {fd : Nat → FuncData} {ca : Nat → Addr} {b : Bx} {cf : CF} {k fu : Nat} {X : Cx} (O : Ok tb fd ca b cf k X n5 (defScope (topS 57)) (fun _ => true)) (po : PassesOwn (model X.prog X.w) X.A X.env X.xe) : PSs X (defBody (topS 57)) (rS b (evB cf fu c5.body)) :=
  sb_cons (g_set O (se_lst (g_cons (se_tup g_nil) g_nil))) (sb_cons (g_for O po (i_seq (g_ix O (g_pk O) (rE.toR g_int))) (g_name O) (sb_cons (g_setM O (sf_lst g_nil)) (sb_cons (g_for O po (i_range1 O (g_pk O)) (g_name O) (sb_cons (g_ext O (g_comp O (own := [("row", 5)]) (i_seq (g_var O)) (fun X O => g_name O) (fun X O => g_yes) (fun X O => g_add (g_pk O) (rE.toR (se_tup (g_cons (g_var O) g_nil)))))) sb_nil)) (sb_frz (sb_cons (g_set O (g_var O)) sb_nil))))) (sb_cons (ss_ret (g_sorted O (rE.toR (g_comp O (own := [("row", 5)]) (i_seq (g_var O)) (fun X O => g_name O) (fun X O => g_one (q_cmp O.eq (rE.toR (g_comp O (own := [("rule", 6)]) (i_seq (g_ix O (g_pk O) (rE.toR g_int))) (fun X O => g_name O) (fun X O => g_one (q_val O (rE.toR (g_call O (g_cons (g_var O) (g_cons (g_var O) g_nil)))))) (fun X O => g_int))) (rE.toR (se_lst g_nil)))) (fun X O => g_var O))))) sb_nil))
def n6 : List Str := ["hypothesis", "test", "fault"]
def c6 : Fn := f_law_fails 4
theorem d6 {fd : Nat → FuncData} {ca : Nat → Addr} {b : Bx} {cf : CF} {k fu : Nat} {X : Cx} (O : Ok tb fd ca b cf k X n6 (defScope (topS 60)) (fun _ => true)) (po : PassesOwn (model X.prog X.w) X.A X.env X.xe) : PSs X (defBody (topS 60)) (rS b (evB cf fu c6.body)) :=
  sb_cons (ss_ret (g_cmp O.ne (rE.toR (g_comp O (own := [("fault", 2)]) (i_seq (g_var O)) (fun X O => g_name O) (fun X O => g_one (q_val O (rE.toR (g_call O (g_cons (g_var O) (g_cons (g_var O) g_nil)))))) (fun X O => g_int))) (rE.toR (se_lst g_nil)))) sb_nil
def n7 : List Str := ["script", "town", "tests", "hypothesis", "most", "found", "k", "test"]
def c7 : Fn := f_law_results 1 6
theorem d7 {fd : Nat → FuncData} {ca : Nat → Addr} {b : Bx} {cf : CF} {k fu : Nat} {X : Cx} (O : Ok tb fd ca b cf k X n7 (defScope (topS 61)) (fun _ => true)) (po : PassesOwn (model X.prog X.w) X.A X.env X.xe) : PSs X (defBody (topS 61)) (rS b (evB cf fu c7.body)) :=
  sb_cons (g_setM O (sf_lst g_nil)) (sb_cons (g_for O po (i_range1 O (rE.toR (g_call O (g_cons (g_var O) (g_cons (g_var O) (g_cons (g_add (g_pk O) (rE.toR g_int)) g_nil)))))) (g_name O) (sb_cons (ss_ife (q_cmp O.ne (g_pk O) (rE.toR (se_lst g_nil))) (sb_cons (g_set O (g_ix O (g_pk O) (rE.toR (g_call O (g_cons (g_var O) (g_cons (g_var O) (g_cons (g_len O (g_pk O)) g_nil))))))) (sb_cons (g_app O (se_tup (g_cons (g_var O) (g_cons (g_cmp O.ne (rE.toR (g_call O (g_cons (g_var O) (g_cons (g_var O) g_nil)))) (rE.toR (g_cmp O.eq (rE.toR (g_call O (g_cons (g_var O) (g_cons (g_var O) (g_cons g_int g_nil))))) (rE.toR g_int)))) g_nil)))) sb_nil)) sb_nil) sb_nil)) (sb_cons (ss_ret (g_tuple O (g_pk O))) sb_nil))
def n8 : List Str := ["results_here", "rows", "test", "failed", "one"]
def c8 : Fn := f_law_lines
theorem d8 {fd : Nat → FuncData} {ca : Nat → Addr} {b : Bx} {cf : CF} {k fu : Nat} {X : Cx} (O : Ok tb fd ca b cf k X n8 (defScope (topS 64)) (fun _ => true)) (po : PassesOwn (model X.prog X.w) X.A X.env X.xe) : PSs X (defBody (topS 64)) (rS b (evB cf fu c8.body)) :=
  sb_cons (g_setM O (sf_lst g_nil)) (sb_cons (g_for O po (i_seq (g_var O)) (g_ttup O (g_tcons (g_name O) (g_tcons (g_name O) sgs_nil))) (sb_cons (g_app O (g_add (rE.toR (g_add (rE.toR (se_ite (q_val O (g_pk O)) g_str g_str)) (rE.toR (g_join O (rE.toR g_str) (rE.toR (g_comp O (own := [("one", 4)]) (i_seq (g_var O)) (fun X O => g_name O) (fun X O => g_yes) (fun X O => g_add (rE.toR g_str) (rE.toR (g_stri O (g_pk O)))))))))) (rE.toR g_str))) sb_nil)) (sb_cons (ss_ret (g_join O (rE.toR g_str) (g_pk O))) sb_nil))
def n9 : List Str := ["values", "one", "other"]
def c9 : Fn := f_is_ascending
theorem d9 {fd : Nat → FuncData} {ca : Nat → Addr} {b : Bx} {cf : CF} {k fu : Nat} {X : Cx} (O : Ok tb fd ca b cf k X n9 (defScope (topS 22)) (fun _ => true)) (po : PassesOwn (model X.prog X.w) X.A X.env X.xe) : PSs X (defBody (topS 22)) (rS b (evB cf fu c9.body)) :=
  sb_cons (ss_ret (g_all O (rE.toR (g_comp O (own := [("one", 1), ("other", 2)]) (i_zip O (g_var O) (se_sl (g_pk O) (so_so (rE.toR g_int)) so_no)) (fun X O => g_ttup O (g_tcons (g_name O) (g_tcons (g_name O) sgs_nil))) (fun X O => g_yes) (fun X O => g_cmp O.lt (g_pk O) (g_pk O)))))) sb_nil
def n10 : List Str := ["value"]
def c10 : Fn := f_is_integer
theorem d10 {fd : Nat → FuncData} {ca : Nat → Addr} {b : Bx} {cf : CF} {k fu : Nat} {X : Cx} (O : Ok tb fd ca b cf k X n10 (defScope (topS 21)) (fun _ => true)) (po : PassesOwn (model X.prog X.w) X.A X.env X.xe) : PSs X (defBody (topS 21)) (rS b (evB cf fu c10.body)) :=
  sb_cons (ss_ret (se_and (rE.toR (g_isint O (g_pk O))) (g_and1 (se_not (rE.toR (g_isbool O (g_pk O))))))) sb_nil
def n11 : List Str := ["sizes", "value", "one"]
def c11 : Fn := f_is_pair_of 10
theorem d11 {fd : Nat → FuncData} {ca : Nat → Addr} {b : Bx} {cf : CF} {k fu : Nat} {X : Cx} (O : Ok tb fd ca b cf k X n11 (defScope (topS 23)) (fun _ => true)) (po : PassesOwn (model X.prog X.w) X.A X.env X.xe) : PSs X (defBody (topS 23)) (rS b (evB cf fu c11.body)) :=
  sb_cons (ss_ife (PW.pt (sw_or (st_not (q_val O (rE.toR (g_istuple O (g_pk O))))) (sw_or (q_cmp O.ne (rE.toR (g_len O (g_pk O))) (rE.toR g_int)) (pw_or1 (st_not (q_val O (rE.toR (g_all O (rE.toR (g_comp O (own := [("one", 2)]) (i_seq (g_var O)) (fun X O => g_name O) (fun X O => g_yes) (fun X O => g_call O (g_cons (g_var O) g_nil)))))))))))) (sb_cons (ss_ret g_fa) sb_nil) sb_nil) (sb_cons (ss_ret (se_and (rE.toR (g_chain O.le O.lt (rE.toR g_int) (rE.toR (g_ix O (g_pk O) (rE.toR g_int))) (rE.toR (g_len O (g_pk O))))) (g_and1 (g_chain O.le O.lt (rE.toR g_int) (rE.toR (g_ix O (g_pk O) (rE.toR g_int))) (rE.toR (g_ix O (g_pk O) (rE.toR (g_ix O (g_pk O) (rE.toR g_int))))))))) sb_nil)
def n12 : List Str := ["sizes", "value", "one"]
def c12 : Fn := f_is_combination_of 9 11
theorem d12 {fd : Nat → FuncData} {ca : Nat → Addr} {b : Bx} {cf : CF} {k fu : Nat} {X : Cx} (O : Ok tb fd ca b cf k X n12 (defScope (topS 24)) (fun _ => true)) (po : PassesOwn (model X.prog X.w) X.A X.env X.xe) : PSs X (defBody (topS 24)) (rS b (evB cf fu c12.body)) :=
  sb_cons (ss_ife (PW.pt (sw_or (st_not (q_val O (rE.toR (g_istuple O (g_pk O))))) (sw_or (q_cmp O.eq (g_pk O) (rE.toR (se_tup g_nil))) (pw_or1 (st_not (q_val O (rE.toR (g_all O (rE.toR (g_comp O (own := [("one", 2)]) (i_seq (g_var O)) (fun X O => g_name O) (fun X O => g_yes) (fun X O => g_call O (g_cons (g_var O) (g_cons (g_var O) g_nil))))))))))))) (sb_cons (ss_ret g_fa) sb_nil) sb_nil) (sb_cons (ss_ret (g_call O (g_cons (g_comp O (own := [("one", 2)]) (i_seq (g_var O)) (fun X O => g_name O) (fun X O => g_yes) (fun X O => g_ix O (g_pk O) (rE.toR g_int))) g_nil))) sb_nil)
def n13 : List Str := ["value", "sizes", "forbidden", "size", "one"]
def c13 : Fn := f_is_model 9 12 10
theorem d13 {fd : Nat → FuncData} {ca : Nat → Addr} {b : Bx} {cf : CF} {k fu : Nat} {X : Cx} (O : Ok tb fd ca b cf k X n13 (defScope (topS 25)) (fun _ => true)) (po : PassesOwn (model X.prog X.w) X.A X.env X.xe) : PSs X (defBody (topS 25)) (rS b (evB cf fu c13.body)) :=
  sb_cons (ss_ife (PW.pt (sw_or (st_not (q_val O (rE.toR (g_istuple O (g_pk O))))) (sw_or (q_cmp O.ne (rE.toR (g_len O (g_pk O))) (rE.toR g_int)) (pw_or1 (st_not (q_val O (rE.toR (g_istuple O (rE.toR (g_ix O (g_pk O) (rE.toR g_int))))))))))) (sb_cons (ss_ret g_fa) sb_nil) sb_nil) (sb_cons (g_unpack (g_var O) (g_ttup O (g_tcons (g_name O) (g_tcons (g_name O) sgs_nil)))) (sb_cons (ss_ife (PW.pt (sw_or (st_not (q_chain O.le O.le (rE.toR g_int) (rE.toR (g_len O (g_pk O))) (rE.toR g_int))) (pw_or1 (st_not (q_val O (rE.toR (g_all O (rE.toR (g_comp O (own := [("size", 3)]) (i_seq (g_var O)) (fun X O => g_name O) (fun X O => g_yes) (fun X O => se_and (rE.toR (g_call O (g_cons (g_var O) g_nil))) (g_and1 (g_chain O.le O.le (rE.toR g_int) (g_pk O) (rE.toR g_int))))))))))))) (sb_cons (ss_ret g_fa) sb_nil) sb_nil) (sb_cons (ss_ife (PW.pt (sw_or (st_not (q_val O (rE.toR (g_istuple O (g_pk O))))) (pw_or1 (q_cmp O.gt (rE.toR (g_len O (g_pk O))) (rE.toR (g_gint O)))))) (sb_cons (ss_ret g_fa) sb_nil) sb_nil) (sb_cons (ss_ret (se_and (rE.toR (g_all O (rE.toR (g_comp O (own := [("one", 4)]) (i_seq (g_var O)) (fun X O => g_name O) (fun X O => g_yes) (fun X O => g_call O (g_cons (g_var O) (g_cons (g_var O) g_nil))))))) (g_and1 (g_call O (g_cons (g_var O) g_nil))))) sb_nil))))
def n14 : List Str := ["model"]
def c14 : Fn := f_check_model 13 0
theorem d14 {fd : Nat → FuncData} {ca : Nat → Addr} {b : Bx} {cf : CF} {k fu : Nat} {X : Cx} (O : Ok tb fd ca b cf k X n14 (defScope (topS 26)) (fun _ => true)) (po : PassesOwn (model X.prog X.w) X.A X.env X.xe) : PSs X (defBody (topS 26)) (rS b (evB cf fu c14.body)) :=
  sb_cons (ss_ife (st_not (q_val O (rE.toR (g_call O (g_cons (g_var O) g_nil))))) (sb_cons (g_raise O) sb_nil) sb_nil) sb_nil
def n15 : List Str := ["text"]
def c15 : Fn := f_check_text 5
theorem d15 {fd : Nat → FuncData} {ca : Nat → Addr} {b : Bx} {cf : CF} {k fu : Nat} {X : Cx} (O : Ok tb fd ca b cf k X n15 (defScope (topS 45)) (fun _ => true)) (po : PassesOwn (model X.prog X.w) X.A X.env X.xe) : PSs X (defBody (topS 45)) (rS b (evB cf fu c15.body)) :=
  sb_cons (ss_ife (st_not (q_val O (rE.toR (g_isstr O (g_pk O))))) (sb_cons (g_raise O) sb_nil) sb_nil) sb_nil
def n16 : List Str := ["text"]
def c16 : Fn := f_rows_of 15 5
theorem d16 {fd : Nat → FuncData} {ca : Nat → Addr} {b : Bx} {cf : CF} {k fu : Nat} {X : Cx} (O : Ok tb fd ca b cf k X n16 (defScope (topS 47)) (fun _ => true)) (po : PassesOwn (model X.prog X.w) X.A X.env X.xe) : PSs X (defBody (topS 47)) (rS b (evB cf fu c16.body)) :=
  sb_cons (g_expr (g_call O (g_cons (g_var O) g_nil))) (sb_cons (ss_ife (PW.pt (sw_and (q_cmp O.ne (g_pk O) (rE.toR g_str)) (pw_and1 (q_cmp O.ne (rE.toR (g_ix O (g_pk O) (rE.toR (se_neg (rE.toR g_int))))) (rE.toR g_str))))) (sb_cons (g_raise O) sb_nil) sb_nil) (sb_cons (ss_ret (se_sl (rE.toR (g_split O (g_pk O) (rE.toR g_str))) so_no (so_so (rE.toR (se_neg (rE.toR g_int)))))) sb_nil))
def n17 : List Str := ["text"]
def c17 : Fn := f_number_of 5
theorem d17 {fd : Nat → FuncData} {ca : Nat → Addr} {b : Bx} {cf : CF} {k fu : Nat} {X : Cx} (O : Ok tb fd ca b cf k X n17 (defScope (topS 42)) (fun _ => true)) (po : PassesOwn (model X.prog X.w) X.A X.env X.xe) : PSs X (defBody (topS 42)) (rS b (evB cf fu c17.body)) :=
  sb_cons (ss_ife (PW.pt (sw_or (q_cmp O.ne (rE.toR (g_len O (g_pk O))) (rE.toR g_int)) (pw_or1 (q_cmp O.notin (g_pk O) (rE.toR g_str))))) (sb_cons (g_raise O) sb_nil) sb_nil) (sb_cons (ss_ret (g_toint O (g_pk O))) sb_nil)
def n18 : List Str := ["text", "word"]
def c18 : Fn := f_read_numbers 17
theorem d18 {fd : Nat → FuncData} {ca : Nat → Addr} {b : Bx} {cf : CF} {k fu : Nat} {X : Cx} (O : Ok tb fd ca b cf k X n18 (defScope (topS 44)) (fun _ => true)) (po : PassesOwn (model X.prog X.w) X.A X.env X.xe) (ST : StF X) : PSs X (defBody (topS 44)) (rS b (evB cf fu c18.body)) :=
  sb_cons (ss_ret (g_tuple O (rE.toR (g_compx O ST (own := [("word", 1)]) (i_seq (g_split O (g_pk O) (rE.toR g_str))) (fun X O => g_name O) (fun X O => g_call O (g_cons (g_var O) g_nil)))))) sb_nil
def n19 : List Str := ["test", "combination", "parameter", "value"]
def c19 : Fn := f_has_all
theorem d19 {fd : Nat → FuncData} {ca : Nat → Addr} {b : Bx} {cf : CF} {k fu : Nat} {X : Cx} (O : Ok tb fd ca b cf k X n19 (defScope (topS 28)) (fun _ => true)) (po : PassesOwn (model X.prog X.w) X.A X.env X.xe) : PSs X (defBody (topS 28)) (rS b (evB cf fu c19.body)) :=
  sb_cons (ss_ret (g_all O (rE.toR (g_comp O (own := [("parameter", 2), ("value", 3)]) (i_seq (g_var O)) (fun X O => g_ttup O (g_tcons (g_name O) (g_tcons (g_name O) sgs_nil))) (fun X O => g_yes) (fun X O => g_cmp O.eq (rE.toR (g_ix O (g_pk O) (g_pk O))) (g_pk O)))))) sb_nil
def n20 : List Str := ["model", "value", "sizes", "forbidden", "one", "size", "rule"]
def c20 : Fn := f_is_test_of 19 10
theorem d20 {fd : Nat → FuncData} {ca : Nat → Addr} {b : Bx} {cf : CF} {k fu : Nat} {X : Cx} (O : Ok tb fd ca b cf k X n20 (defScope (topS 29)) (fun _ => true)) (po : PassesOwn (model X.prog X.w) X.A X.env X.xe) : PSs X (defBody (topS 29)) (rS b (evB cf fu c20.body)) :=
  sb_cons (g_unpack (g_var O) (g_ttup O (g_tcons (g_name O) (g_tcons (g_name O) sgs_nil)))) (sb_cons (ss_ife (PW.pt (sw_or (st_not (q_val O (rE.toR (g_istuple O (g_pk O))))) (pw_or1 (q_cmp O.ne (rE.toR (g_len O (g_pk O))) (rE.toR (g_len O (g_pk O))))))) (sb_cons (ss_ret g_fa) sb_nil) sb_nil) (sb_cons (ss_ife (st_not (q_val O (rE.toR (g_all O (rE.toR (g_comp O (own := [("one", 4), ("size", 5)]) (i_zip O (g_var O) (g_var O)) (fun X O => g_ttup O (g_tcons (g_name O) (g_tcons (g_name O) sgs_nil))) (fun X O => g_yes) (fun X O => se_and (rE.toR (g_call O (g_cons (g_var O) g_nil))) (g_and1 (g_chain O.le O.lt (rE.toR g_int) (g_pk O) (g_pk O)))))))))) (sb_cons (ss_ret g_fa) sb_nil) sb_nil) (sb_cons (ss_ret (se_not (rE.toR (g_any O (rE.toR (g_comp O (own := [("rule", 6)]) (i_seq (g_var O)) (fun X O => g_name O) (fun X O => g_yes) (fun X O => g_call O (g_cons (g_var O) (g_cons (g_var O) g_nil))))))))) sb_nil)))
def n21 : List Str := ["model", "value"]
def c21 : Fn := f_is_result 20
theorem d21 {fd : Nat → FuncData} {ca : Nat → Addr} {b : Bx} {cf : CF} {k fu : Nat} {X : Cx} (O : Ok tb fd ca b cf k X n21 (defScope (topS 32)) (fun _ => true)) (po : PassesOwn (model X.prog X.w) X.A X.env X.xe) : PSs X (defBody (topS 32)) (rS b (evB cf fu c21.body)) :=
  sb_cons (ss_ife (PW.pt (sw_or (st_not (q_val O (rE.toR (g_istuple O (g_pk O))))) (pw_or1 (q_cmp O.ne (rE.toR (g_len O (g_pk O))) (rE.toR g_int))))) (sb_cons (ss_ret g_fa) sb_nil) sb_nil) (sb_cons (ss_ret (se_and (rE.toR (g_call O (g_cons (g_var O) (g_cons (g_ix O (g_pk O) (rE.toR g_int)) g_nil)))) (g_and1 (g_isbool O (rE.toR (g_ix O (g_pk O) (rE.toR g_int))))))) sb_nil)
def n22 : List Str := ["model", "text", "found", "row", "one"]
def c22 : Fn := f_parse_results 14 21 18 16 5
theorem d22 {fd : Nat → FuncData} {ca : Nat → Addr} {b : Bx} {cf : CF} {k fu : Nat} {X : Cx} (O : Ok tb fd ca b cf k X n22 (defScope (topS 49)) (fun _ => true)) (po : PassesOwn (model X.prog X.w) X.A X.env X.xe) : PSs X (defBody (topS 49)) (rS b (evB cf fu c22.body)) :=
  sb_cons (g_expr (g_call O (g_cons (g_var O) g_nil))) (sb_cons (g_setM O (sf_lst g_nil)) (sb_cons (g_for O po (i_seq (g_call O (g_cons (g_var O) g_nil))) (g_name O) (sb_cons (ss_ife (q_cmp O.notin (rE.toR (se_sl (g_pk O) so_no (so_so (rE.toR g_int)))) (rE.toR (se_tup (g_cons g_str (g_cons g_str g_nil))))) (sb_cons (g_raise O) sb_nil) sb_nil) (sb_cons (g_app O (se_tup (g_cons (g_call O (g_cons (se_sl (g_pk O) (so_so (rE.toR g_int)) so_no) g_nil)) (g_cons (g_cmp O.eq (rE.toR (se_sl (g_pk O) so_no (so_so (rE.toR g_int)))) (rE.toR g_str)) g_nil)))) sb_nil))) (sb_frz (sb_cons (ss_ife (PW.pt (sw_or (q_cmp O.gt (rE.toR (g_len O (g_pk O))) (rE.toR g_int)) (pw_or1 (st_not (q_val O (rE.toR (g_all O (rE.toR (g_comp O (own := [("one", 4)]) (i_seq (g_var O)) (fun X O => g_name O) (fun X O => g_yes) (fun X O => g_call O (g_cons (g_var O) (g_cons (g_var O) g_nil)))))))))))) (sb_cons (g_raise O) sb_nil) sb_nil) (sb_cons (ss_ret (g_tuple O (g_pk O))) sb_nil)))))
def n23 : List Str := ["text", "found", "word"]
def c23 : Fn := f_read_pairs 17 5
theorem d23 {fd : Nat → FuncData} {ca : Nat → Addr} {b : Bx} {cf : CF} {k fu : Nat} {X : Cx} (O : Ok tb fd ca b cf k X n23 (defScope (topS 43)) (fun _ => true)) (po : PassesOwn (model X.prog X.w) X.A X.env X.xe) : PSs X (defBody (topS 43)) (rS b (evB cf fu c23.body)) :=
  sb_cons (g_setM O (sf_lst g_nil)) (sb_cons (g_for O po (i_seq (g_split O (g_pk O) (rE.toR g_str))) (g_name O) (sb_cons (ss_ife (PW.pt (sw_or (q_cmp O.ne (rE.toR (g_len O (g_pk O))) (rE.toR g_int)) (pw_or1 (q_cmp O.ne (rE.toR (g_ix O (g_pk O) (rE.toR g_int))) (rE.toR g_str))))) (sb_cons (g_raise O) sb_nil) sb_nil) (sb_cons (g_app O (se_tup (g_cons (g_call O (g_cons (g_ix O (g_pk O) (rE.toR g_int)) g_nil)) (g_cons (g_call O (g_cons (g_ix O (g_pk O) (rE.toR g_int)) g_nil)) g_nil)))) sb_nil))) (sb_cons (ss_ret (g_tuple O (g_pk O))) sb_nil))
def n24 : List Str := ["text", "rows", "model", "row"]
def c24 : Fn := f_parse_model 13 18 23 16 5
theorem d24 {fd : Nat → FuncData} {ca : Nat → Addr} {b : Bx} {cf : CF} {k fu : Nat} {X : Cx} (O : Ok tb fd ca b cf k X n24 (defScope (topS 48)) (fun _ => true)) (po : PassesOwn (model X.prog X.w) X.A X.env X.xe) (ST : StF X) : PSs X (defBody (topS 48)) (rS b (evB cf fu c24.body)) :=
  sb_cons (g_set O (g_call O (g_cons (g_var O) g_nil))) (sb_cons (ss_ife (PW.pt (sw_or (q_cmp O.eq (g_pk O) (rE.toR (se_lst g_nil))) (sw_or (q_cmp O.ne (rE.toR (se_sl (rE.toR (g_ix O (g_pk O) (rE.toR g_int))) so_no (so_so (rE.toR g_int)))) (rE.toR g_str)) (pw_or1 (st_not (q_val O (rE.toR (g_all O (rE.toR (g_comp O (own := [("row", 3)]) (i_seq (se_sl (g_pk O) (so_so (rE.toR g_int)) so_no)) (fun X O => g_name O) (fun X O => g_yes) (fun X O => g_cmp O.eq (rE.toR (se_sl (g_pk O) so_no (so_so (rE.toR g_int)))) (rE.toR g_str)))))))))))) (sb_cons (g_raise O) sb_nil) sb_nil) (sb_cons (g_set O (se_tup (g_cons (g_call O (g_cons (se_sl (rE.toR (g_ix O (g_pk O) (rE.toR g_int))) (so_so (rE.toR g_int)) so_no) g_nil)) (g_cons (g_tuple O (rE.toR (g_compx O ST (own := [("row", 3)]) (i_seq (se_sl (g_pk O) (so_so (rE.toR g_int)) so_no)) (fun X O => g_name O) (fun X O => g_call O (g_cons (se_sl (g_pk O) (so_so (rE.toR g_int)) so_no) g_nil))))) g_nil)))) (sb_cons (ss_ife (st_not (q_val O (rE.toR (g_call O (g_cons (g_var O) g_nil))))) (sb_cons (g_raise O) sb_nil) sb_nil) (sb_cons (ss_ret (g_var O)) sb_nil))))
def n26 : List Str := ["model", "text", "found"]
def c26 : Fn := f_parse_combination 14 15 12 23 5
theorem d26 {fd : Nat → FuncData} {ca : Nat → Addr} {b : Bx} {cf : CF} {k fu : Nat} {X : Cx} (O : Ok tb fd ca b cf k X n26 (defScope (topS 46)) (fun _ => true)) (po : PassesOwn (model X.prog X.w) X.A X.env X.xe) : PSs X (defBody (topS 46)) (rS b (evB cf fu c26.body)) :=
  sb_cons (g_expr (g_call O (g_cons (g_var O) g_nil))) (sb_cons (g_expr (g_call O (g_cons (g_var O) g_nil))) (sb_cons (g_set O (g_call O (g_cons (g_var O) g_nil))) (sb_cons (ss_ife (st_not (q_val O (rE.toR (g_call O (g_cons (g_ix O (g_pk O) (rE.toR g_int)) (g_cons (g_var O) g_nil)))))) (sb_cons (g_raise O) sb_nil) sb_nil) (sb_cons (ss_ret (g_var O)) sb_nil))))
def n27 : List Str := ["odds", "odd", "model_here"]
def c27 : Fn := f_law_by_hand 26 24 22
theorem d27 {fd : Nat → FuncData} {ca : Nat → Addr} {b : Bx} {cf : CF} {k fu : Nat} {X : Cx} (O : Ok tb fd ca b cf k X n27 (defScope (topS 66)) (fun _ => true)) (po : PassesOwn (model X.prog X.w) X.A X.env X.xe) (L : LamOk k X b) (G : ResFx tb fd ca b cf k X.K 25 (topS 51) resL) : PSs X (defBody (topS 66)) (rS b (evB cf fu c27.body)) :=
  sb_cons (g_set O (se_lst (g_cons g_str (g_cons g_str (g_cons g_str (g_cons g_str (g_cons g_str (g_cons g_str (g_cons g_str (g_cons g_none g_nil)))))))))) (sb_cons (g_set O (g_add (g_pk O) (rE.toR (se_lst (g_cons g_str (g_cons g_str (g_cons g_str (g_cons g_str (g_cons g_int g_nil))))))))) (sb_cons (g_set O (g_add (g_pk O) (rE.toR (se_lst (g_cons g_str (g_cons g_str (g_cons g_str g_nil))))))) (sb_cons (g_for O po (i_seq (g_add (g_pk O) (rE.toR (se_lst (g_cons (se_lst (g_cons g_str g_nil)) (g_cons g_str g_nil)))))) (g_name O) (sb_cons (ss_ife (q_cmp O.ne (rE.toR (g_lam O L G (fun X E O => g_call O (g_cons (g_var O) g_nil)) rfl (fun _ _ _ _ _ => rfl))) (rE.toR (se_tup (g_cons g_str g_nil)))) (sb_cons (ss_ret g_fa) sb_nil) sb_nil) sb_nil)) (sb_cons (g_set O (se_tup (g_cons (se_tup (g_cons g_int (g_cons g_int g_nil))) (g_cons (se_tup (g_cons (se_tup (g_cons (se_tup (g_cons g_int (g_cons g_int g_nil))) (g_cons (se_tup (g_cons g_int (g_cons g_int g_nil))) g_nil))) g_nil)) g_nil)))) (sb_cons (g_for O po (i_seq (se_tup (g_cons g_str (g_cons g_str (g_cons g_str (g_cons g_str (g_cons g_str (g_cons g_str (g_cons g_str (g_cons g_str (g_cons g_none (g_cons (se_tup (g_cons (se_tup (g_cons g_int (g_cons g_int g_nil))) g_nil)) g_nil)))))))))))) (g_name O) (sb_cons (ss_ife (q_cmp O.ne (rE.toR (g_lam O L G (fun X E O => g_call O (g_cons (g_var O) (g_cons (g_var O) g_nil))) rfl (fun _ _ _ _ _ => rfl))) (rE.toR (se_tup (g_cons g_str g_nil)))) (sb_cons (ss_ret g_fa) sb_nil) sb_nil) sb_nil)) (sb_cons (g_set O (se_lst (g_cons g_str (g_cons g_str (g_cons g_str (g_cons g_str (g_cons g_str (g_cons g_str (g_cons g_str g_nil))))))))) (sb_cons (g_for O po (i_seq (g_add (g_pk O) (rE.toR (se_lst (g_cons (g_mul (rE.toR g_str) (rE.toR g_int)) (g_cons g_none g_nil)))))) (g_name O) (sb_cons (ss_ife (q_cmp O.ne (rE.toR (g_lam O L G (fun X E O => g_call O (g_cons (g_var O) (g_cons (g_var O) g_nil))) rfl (fun _ _ _ _ _ => rfl))) (rE.toR (se_tup (g_cons g_str g_nil)))) (sb_cons (ss_ret g_fa) sb_nil) sb_nil) sb_nil)) (sb_cons (ss_ife (q_cmp O.ne (rE.toR (g_call O (g_cons (g_var O) (g_cons g_str g_nil)))) (rE.toR (se_tup g_nil))) (sb_cons (ss_ret g_fa) sb_nil) sb_nil) (sb_cons (ss_ife (q_cmp O.ne (rE.toR (g_call O (g_cons (g_var O) (g_cons (g_mul (rE.toR g_str) (rE.toR g_int)) g_nil)))) (rE.toR (g_mul (rE.toR (se_tup (g_cons (se_tup (g_cons (se_tup (g_cons g_int (g_cons g_int g_nil))) (g_cons g_fa g_nil))) g_nil))) (rE.toR g_int)))) (sb_cons (ss_ret g_fa) sb_nil) sb_nil) (sb_cons (ss_ret (g_cmp O.eq (rE.toR (g_call O (g_cons g_str g_nil))) (g_pk O))) sb_nil))))))))))
def n28 : List Str := ["combination_here", "parameter", "value"]
def c28 : Fn := f_law_pairs
theorem d28 {fd : Nat → FuncData} {ca : Nat → Addr} {b : Bx} {cf : CF} {k fu : Nat} {X : Cx} (O : Ok tb fd ca b cf k X n28 (defScope (topS 62)) (fun _ => true)) (po : PassesOwn (model X.prog X.w) X.A X.env X.xe) : PSs X (defBody (topS 62)) (rS b (evB cf fu c28.body)) :=
  sb_cons (ss_ret (g_join O (rE.toR g_str) (rE.toR (g_comp O (own := [("parameter", 1), ("value", 2)]) (i_seq (g_var O)) (fun X O => g_ttup O (g_tcons (g_name O) (g_tcons (g_name O) sgs_nil))) (fun X O => g_yes) (fun X O => g_add (rE.toR (g_add (rE.toR (g_stri O (g_pk O))) (rE.toR g_str))) (rE.toR (g_stri O (g_pk O)))))))) sb_nil
def n29 : List Str := ["model_here", "rows", "size", "rule"]
def c29 : Fn := f_law_text 28
theorem d29 {fd : Nat → FuncData} {ca : Nat → Addr} {b : Bx} {cf : CF} {k fu : Nat} {X : Cx} (O : Ok tb fd ca b cf k X n29 (defScope (topS 63)) (fun _ => true)) (po : PassesOwn (model X.prog X.w) X.A X.env X.xe) : PSs X (defBody (topS 63)) (rS b (evB cf fu c29.body)) :=
  sb_cons (g_set O (g_add (rE.toR (g_add (rE.toR (se_lst (g_cons g_str g_nil))) (rE.toR (g_comp O (own := [("size", 2)]) (i_seq (g_ix O (g_pk O) (rE.toR g_int))) (fun X O => g_name O) (fun X O => g_yes) (fun X O => g_add (rE.toR g_str) (rE.toR (g_stri O (g_pk O)))))))) (rE.toR (se_lst (g_cons g_str g_nil))))) (sb_cons (ss_ret (g_join O (rE.toR g_str) (rE.toR (g_add (g_pk O) (rE.toR (g_comp O (own := [("rule", 3)]) (i_seq (g_ix O (g_pk O) (rE.toR g_int))) (fun X O => g_name O) (fun X O => g_yes) (fun X O => g_add (rE.toR (g_add (rE.toR g_str) (rE.toR (g_call O (g_cons (g_var O) g_nil))))) (rE.toR g_str)))))))) sb_nil)
def n30 : List Str := ["model", "combination"]
def c30 : Fn := f_check_combination 12 2
theorem d30 {fd : Nat → FuncData} {ca : Nat → Addr} {b : Bx} {cf : CF} {k fu : Nat} {X : Cx} (O : Ok tb fd ca b cf k X n30 (defScope (topS 27)) (fun _ => true)) (po : PassesOwn (model X.prog X.w) X.A X.env X.xe) : PSs X (defBody (topS 27)) (rS b (evB cf fu c30.body)) :=
  sb_cons (ss_ife (st_not (q_val O (rE.toR (g_call O (g_cons (g_ix O (g_pk O) (rE.toR g_int)) (g_cons (g_var O) g_nil)))))) (sb_cons (g_raise O) sb_nil) sb_nil) sb_nil
def n31 : List Str := ["combination", "parameter", "value"]
def c31 : Fn := f_combination_text
theorem d31 {fd : Nat → FuncData} {ca : Nat → Addr} {b : Bx} {cf : CF} {k fu : Nat} {X : Cx} (O : Ok tb fd ca b cf k X n31 (defScope (topS 35)) (fun _ => true)) (po : PassesOwn (model X.prog X.w) X.A X.env X.xe) : PSs X (defBody (topS 35)) (rS b (evB cf fu c31.body)) :=
  sb_cons (ss_ret (g_join O (rE.toR g_str) (rE.toR (g_comp O (own := [("parameter", 1), ("value", 2)]) (i_seq (g_var O)) (fun X O => g_ttup O (g_tcons (g_name O) (g_tcons (g_name O) sgs_nil))) (fun X O => g_yes) (fun X O => g_joined (pj_cons (g_fval O (g_var O)) (pj_cons g_str (pj_cons (g_fval O (g_var O)) pj_nil)))))))) sb_nil
def n32 : List Str := ["model", "combination"]
def c32 : Fn := f_format_combination 30 14 31
theorem d32 {fd : Nat → FuncData} {ca : Nat → Addr} {b : Bx} {cf : CF} {k fu : Nat} {X : Cx} (O : Ok tb fd ca b cf k X n32 (defScope (topS 36)) (fun _ => true)) (po : PassesOwn (model X.prog X.w) X.A X.env X.xe) : PSs X (defBody (topS 36)) (rS b (evB cf fu c32.body)) :=
  sb_cons (g_expr (g_call O (g_cons (g_var O) g_nil))) (sb_cons (g_expr (g_call O (g_cons (g_var O) (g_cons (g_var O) g_nil)))) (sb_cons (ss_ret (g_call O (g_cons (g_var O) g_nil))) sb_nil))
def n33 : List Str := ["model", "results", "good", "one"]
def c33 : Fn := f_check_results 21 8
theorem d33 {fd : Nat → FuncData} {ca : Nat → Addr} {b : Bx} {cf : CF} {k fu : Nat} {X : Cx} (O : Ok tb fd ca b cf k X n33 (defScope (topS 33)) (fun _ => true)) (po : PassesOwn (model X.prog X.w) X.A X.env X.xe) : PSs X (defBody (topS 33)) (rS b (evB cf fu c33.body)) :=
  sb_cons (g_set O (se_and (rE.toR (g_istuple O (g_pk O))) (g_and1 (g_cmp O.le (rE.toR (g_len O (g_pk O))) (rE.toR (g_gint O)))))) (sb_cons (ss_ife (PW.pt (sw_or (st_not (q_val O (g_pk O))) (pw_or1 (st_not (q_val O (rE.toR (g_all O (rE.toR (g_comp O (own := [("one", 3)]) (i_seq (g_var O)) (fun X O => g_name O) (fun X O => g_yes) (fun X O => g_call O (g_cons (g_var O) (g_cons (g_var O) g_nil)))))))))))) (sb_cons (g_raise O) sb_nil) sb_nil) sb_nil)
def n34 : List Str := ["numbers", "one"]
def c34 : Fn := f_numbers_text
theorem d34 {fd : Nat → FuncData} {ca : Nat → Addr} {b : Bx} {cf : CF} {k fu : Nat} {X : Cx} (O : Ok tb fd ca b cf k X n34 (defScope (topS 37)) (fun _ => true)) (po : PassesOwn (model X.prog X.w) X.A X.env X.xe) : PSs X (defBody (topS 37)) (rS b (evB cf fu c34.body)) :=
  sb_cons (ss_ret (g_join O (rE.toR g_str) (rE.toR (g_comp O (own := [("one", 1)]) (i_seq (g_var O)) (fun X O => g_name O) (fun X O => g_yes) (fun X O => g_stri O (g_pk O)))))) sb_nil
def n35 : List Str := ["results", "words", "test", "failed", "word", "result"]
def c35 : Fn := f_results_text 34
theorem d35 {fd : Nat → FuncData} {ca : Nat → Addr} {b : Bx} {cf : CF} {k fu : Nat} {X : Cx} (O : Ok tb fd ca b cf k X n35 (defScope (topS 40)) (fun _ => true)) (po : PassesOwn (model X.prog X.w) X.A X.env X.xe) : PSs X (defBody (topS 40)) (rS b (evB cf fu c35.body)) :=
  sb_cons (g_setL O (own := [("test", 2), ("failed", 3)]) (i_seq (g_var O)) (fun X O => g_ttup O (g_tcons (g_name O) (g_tcons (g_name O) sgs_nil))) (fun X O => g_yes) (fun X O => se_ite (q_val O (g_pk O)) g_str g_str)) (sb_cons (ss_ret (g_join O (rE.toR g_str) (rE.toR (g_comp O (own := [("word", 4), ("result", 5)]) (i_zip O (g_var O) (g_var O)) (fun X O => g_ttup O (g_tcons (g_name O) (g_tcons (g_name O) sgs_nil))) (fun X O => g_yes) (fun X O => g_add (rE.toR (g_add (g_pk O) (rE.toR (g_call O (g_cons (g_ix O (g_pk O) (rE.toR g_int)) g_nil))))) (rE.toR g_str)))))) sb_nil)
def n36 : List Str := ["model", "results"]
def c36 : Fn := f_format_results 14 33 35
theorem d36 {fd : Nat → FuncData} {ca : Nat → Addr} {b : Bx} {cf : CF} {k fu : Nat} {X : Cx} (O : Ok tb fd ca b cf k X n36 (defScope (topS 41)) (fun _ => true)) (po : PassesOwn (model X.prog X.w) X.A X.env X.xe) : PSs X (defBody (topS 41)) (rS b (evB cf fu c36.body)) :=
  sb_cons (g_expr (g_call O (g_cons (g_var O) g_nil))) (sb_cons (g_expr (g_call O (g_cons (g_var O) (g_cons (g_var O) g_nil)))) (sb_cons (ss_ret (g_call O (g_cons (g_var O) g_nil))) sb_nil))
def n37 : List Str := ["model", "rows", "rule", "row"]
def c37 : Fn := f_model_text 31 34
theorem d37 {fd : Nat → FuncData} {ca : Nat → Addr} {b : Bx} {cf : CF} {k fu : Nat} {X : Cx} (O : Ok tb fd ca b cf k X n37 (defScope (topS 38)) (fun _ => true)) (po : PassesOwn (model X.prog X.w) X.A X.env X.xe) : PSs X (defBody (topS 38)) (rS b (evB cf fu c37.body)) :=
  sb_cons (g_set O (g_add (rE.toR (se_lst (g_cons (g_add (rE.toR g_str) (rE.toR (g_call O (g_cons (g_ix O (g_pk O) (rE.toR g_int)) g_nil)))) g_nil))) (rE.toR (g_comp O (own := [("rule", 2)]) (i_seq (g_ix O (g_pk O) (rE.toR g_int))) (fun X O => g_name O) (fun X O => g_yes) (fun X O => g_add (rE.toR g_str) (rE.toR (g_call O (g_cons (g_var O) g_nil)))))))) (sb_cons (ss_ret (g_join O (rE.toR g_str) (rE.toR (g_comp O (own := [("row", 3)]) (i_seq (g_var O)) (fun X O => g_name O) (fun X O => g_yes) (fun X O => g_add (g_pk O) (rE.toR g_str)))))) sb_nil)
def n38 : List Str := ["model"]
def c38 : Fn := f_format_model 14 37
theorem d38 {fd : Nat → FuncData} {ca : Nat → Addr} {b : Bx} {cf : CF} {k fu : Nat} {X : Cx} (O : Ok tb fd ca b cf k X n38 (defScope (topS 39)) (fun _ => true)) (po : PassesOwn (model X.prog X.w) X.A X.env X.xe) : PSs X (defBody (topS 39)) (rS b (evB cf fu c38.body)) :=
  sb_cons (g_expr (g_call O (g_cons (g_var O) g_nil))) (sb_cons (ss_ret (g_call O (g_cons (g_var O) g_nil))) sb_nil)
def n39 : List Str := ["script", "town", "text_here", "at", "sign", "some"]
def c39 : Fn := f_law_changed 1
theorem d39 {fd : Nat → FuncData} {ca : Nat → Addr} {b : Bx} {cf : CF} {k fu : Nat} {X : Cx} (O : Ok tb fd ca b cf k X n39 (defScope (topS 65)) (fun _ => true)) (po : PassesOwn (model X.prog X.w) X.A X.env X.xe) : PSs X (defBody (topS 65)) (rS b (evB cf fu c39.body)) :=
  sb_cons (g_set O (g_call O (g_cons (g_var O) (g_cons (g_var O) (g_cons (g_add (rE.toR (g_len O (g_pk O))) (rE.toR g_int)) g_nil))))) (sb_cons (g_set O (g_ix O (rE.toR g_str) (rE.toR (g_call O (g_cons (g_var O) (g_cons (g_var O) (g_cons g_int g_nil))))))) (sb_cons (g_setM O (sf_lst (g_cons (g_add (rE.toR (g_add (rE.toR (se_sl (g_pk O) so_no (so_so (g_pk O)))) (g_pk O))) (rE.toR (se_sl (g_pk O) (so_so (g_pk O)) so_no))) (g_cons (g_add (rE.toR (se_sl (g_pk O) so_no (so_so (g_pk O)))) (rE.toR (se_sl (g_pk O) (so_so (rE.toR (g_add (g_pk O) (rE.toR g_int)))) so_no))) g_nil)))) (sb_cons (g_app O (g_add (rE.toR (g_add (rE.toR (se_sl (g_pk O) so_no (so_so (g_pk O)))) (g_pk O))) (rE.toR (se_sl (g_pk O) (so_so (rE.toR (g_add (g_pk O) (rE.toR g_int)))) so_no)))) (sb_cons (ss_ret (g_ix O (g_pk O) (rE.toR (g_call O (g_cons (g_var O) (g_cons (g_var O) (g_cons g_int g_nil))))))) sb_nil))))
def n40 : List Str := ["script", "town", "model_here", "combination_here", "tests", "results_here", "one", "two", "three", "k", "some", "result", "text_here"]
def c40 : Fn := f_law_k32 0 27 39 2 8 3 28 7 5 29 32 38 36 26 24 22
theorem d40 {fd : Nat → FuncData} {ca : Nat → Addr} {b : Bx} {cf : CF} {k fu : Nat} {X : Cx} (O : Ok tb fd ca b cf k X n40 (defScope (topS 67)) (fun _ => true)) (po : PassesOwn (model X.prog X.w) X.A X.env X.xe) (L : LamOk k X b) (G : ResFx tb fd ca b cf k X.K 25 (topS 51) resL) : PSs X (defBody (topS 67)) (rS b (evB cf fu c40.body)) :=
  sb_cons (g_set O (g_call0 O)) (sb_cons (g_set O (g_call O (g_cons (g_var O) (g_cons (g_var O) (g_cons g_int (g_cons g_int (g_cons g_int g_nil))))))) (sb_cons (g_set O (g_call O (g_cons (g_var O) (g_cons (g_var O) (g_cons (g_ix O (g_pk O) (rE.toR g_int)) (g_cons g_int g_nil)))))) (sb_cons (g_set O (g_call O (g_cons (g_var O) g_nil))) (sb_cons (g_set O (g_call O (g_cons (g_var O) (g_cons (g_var O) (g_cons (g_var O) (g_cons (se_tup (g_cons (g_var O) g_nil)) (g_cons g_int g_nil))))))) (sb_cons (g_par O (m1 := false) (m2 := false) (g_call O (g_cons (g_var O) g_nil)) (g_call O (g_cons (g_var O) g_nil))) (sb_cons (g_set O (g_call O (g_cons (g_var O) g_nil))) (sb_cons (ss_ife (PW.pt (sw_or (q_cmp O.ne (rE.toR (g_callk0 O (sk_cons (g_var O) sk_nil))) (g_pk O)) (pw_or1 (q_cmp O.ne (rE.toR (g_callk0 O (sk_cons (g_var O) sk_nil))) (g_pk O))))) (sb_cons (ss_ret g_fa) sb_nil) sb_nil) (sb_cons (ss_ife (q_cmp O.ne (rE.toR (g_callk O (g_cons (g_var O) g_nil) (sk_cons (g_var O) sk_nil))) (g_pk O)) (sb_cons (ss_ret g_fa) sb_nil) sb_nil) (sb_cons (ss_ife (q_cmp O.ne (rE.toR (g_callk O (g_cons (g_var O) g_nil) (sk_cons (g_var O) sk_nil))) (g_pk O)) (sb_cons (ss_ret g_fa) sb_nil) sb_nil) (sb_cons (ss_ife (q_cmp O.ne (rE.toR (g_callk O (g_cons (g_var O) g_nil) (sk_cons (g_var O) sk_nil))) (g_pk O)) (sb_cons (ss_ret g_fa) sb_nil) sb_nil) (sb_cons (ss_ife (q_cmp O.ne (rE.toR (g_callk O (g_cons (g_var O) g_nil) (sk_cons (g_var O) sk_nil))) (g_pk O)) (sb_cons (ss_ret g_fa) sb_nil) sb_nil) (sb_cons (g_for O po (i_range1 O (rE.toR g_int)) (g_name O) (sb_cons (g_setC O (g_comp O (own := [("text_here", 12)]) (i_seq (se_tup (g_cons (g_var O) (g_cons (g_var O) (g_cons (g_var O) g_nil))))) (fun X O => g_name O) (fun X O => g_yes) (fun X O => g_call O (g_cons (g_var O) (g_cons (g_var O) (g_cons (g_var O) g_nil)))))) (sb_cons (g_set O (g_lam O L G (fun X E O => g_call O (g_cons (g_ix O (g_pk O) (rE.toR g_int)) g_nil)) rfl (fun _ _ _ _ _ => rfl))) (sb_cons (ss_ife (PW.pt (sw_and (q_cmp O.ne (g_pk O) (rE.toR (se_tup (g_cons g_str g_nil)))) (pw_and1 (PW.pt (sw_or (q_cmp O.ne (rE.toR (g_ix O (g_pk O) (rE.toR g_int))) (rE.toR g_str)) (pw_or1 (q_cmp O.ne (rE.toR (g_call O (g_cons (g_ix O (g_pk O) (rE.toR g_int)) g_nil))) (rE.toR (g_ix O (g_pk O) (rE.toR g_int)))))))))) (sb_cons (ss_ret g_fa) sb_nil) sb_nil) (sb_cons (g_set O (g_lam O L G (fun X E O => g_call O (g_cons (g_var O) (g_cons (g_ix O (g_pk O) (rE.toR g_int)) g_nil))) rfl (fun _ _ _ _ _ => rfl))) (sb_cons (ss_ife (PW.pt (sw_and (q_cmp O.ne (g_pk O) (rE.toR (se_tup (g_cons g_str g_nil)))) (pw_and1 (PW.pt (sw_or (q_cmp O.ne (rE.toR (g_ix O (g_pk O) (rE.toR g_int))) (rE.toR g_str)) (pw_or1 (q_cmp O.ne (rE.toR (g_call O (g_cons (g_ix O (g_pk O) (rE.toR g_int)) g_nil))) (rE.toR (g_ix O (g_pk O) (rE.toR g_int)))))))))) (sb_cons (ss_ret g_fa) sb_nil) sb_nil) (sb_cons (g_set O (g_lam O L G (fun X E O => g_call O (g_cons (g_var O) (g_cons (g_ix O (g_pk O) (rE.toR g_int)) g_nil))) rfl (fun _ _ _ _ _ => rfl))) (sb_cons (ss_ife (PW.pt (sw_and (q_cmp O.ne (g_pk O) (rE.toR (se_tup (g_cons g_str g_nil)))) (pw_and1 (PW.pt (sw_or (q_cmp O.ne (rE.toR (g_ix O (g_pk O) (rE.toR g_int))) (rE.toR g_str)) (pw_or1 (q_cmp O.ne (rE.toR (g_call O (g_cons (g_ix O (g_pk O) (rE.toR g_int)) g_nil))) (rE.toR (g_ix O (g_pk O) (rE.toR g_int)))))))))) (sb_cons (ss_ret g_fa) sb_nil) sb_nil) sb_nil)))))))) (sb_cons (g_setM O (sf_lst (g_cons (g_lam O L G (fun X E O => g_call O (g_cons g_none g_nil)) rfl (fun _ _ _ _ _ => rfl)) g_nil))) (sb_cons (g_app O (g_lam O L G (fun X E O => g_call O (g_cons (g_var O) (g_cons (se_tup g_nil) g_nil))) rfl (fun _ _ _ _ _ => rfl))) (sb_cons (g_app O (g_lam O L G (fun X E O => g_call O (g_cons (g_var O) (g_cons g_none g_nil))) rfl (fun _ _ _ _ _ => rfl))) (sb_cons (g_app O (g_lam O L G (fun X E O => g_call O (g_cons (se_tup g_nil) (g_cons g_str g_nil))) rfl (fun _ _ _ _ _ => rfl))) (sb_cons (ss_ife (q_cmp O.ne (g_pk O) (rE.toR (se_lst (g_cons (se_tup (g_cons g_str g_nil)) (g_cons (se_tup (g_cons g_str g_nil)) (g_cons (se_tup (g_cons g_str g_nil)) (g_cons (se_tup (g_cons g_str g_nil)) g_nil))))))) (sb_cons (ss_ret g_fa) sb_nil) sb_nil) (sb_cons (ss_ret (g_call0 O)) sb_nil))))))))))))))))))
def n_draw : List Str := ["script", "town", "many", "at", "rest", "number"]
theorem p_draw {fd : Nat → FuncData} {ca : Nat → Addr} {b : Bx} {cf : CF} {k : Nat} {X : Cx} (O : Ok tb fd ca b cf k X n_draw (defScope (topS 52)) (fun _ => true)) : PSs X (defBody (topS 52)) (t_draw X.K) :=
  pss_cons (ps_dput O.u1 (v_ O) pe_str (pe_op op_add (pe_dget O.u1 (v_ O) pe_str (fun _ _ => rfl)) pe_int) (swaps_no rfl))
  (pss_cons (as_ O (pe_ifExp (pt_truth (v_ O) (fun _ => rfl)) (pe_op op_mod (pe_dget O.u1 (v_ O) pe_str (fun _ _ => rfl)) (len_ O (v_ O))) pe_int))
  (pss_cons (as_ O (pe_dget2 O.u1 (pe_dget O.u1 (v_ O) pe_str (fun _ _ => rfl)) (v_ O) (pe_ifExp (pt_truth (v_ O) (fun _ => rfl)) (pe_ix ix_list (v_ O) (v_ O) (fun _ _ => rfl)) pe_int) ⟨rfl, rfl, rfl, rfl⟩))
  (pss_cons (ps_if (pt_cmpR op_ge (v_ O) (pe_op op_pow pe_int pe_int) (nomark _)) (pss_cons (ps_dput O.u1 (pe_dget O.u1 (v_ O) pe_str (fun _ _ => rfl)) (v_ O) (pe_op op_fdiv (v_ O) (v_ O)) (swaps_no rfl)) (pss_one (ps_ret (pe_op op_mod (v_ O) (v_ O))))) pss_nil)
  (pss_cons (as_ O (pe_op op_mod (pe_op op_add (v_ O) (pe_op op_mul pe_int (pe_dget O.u1 (v_ O) pe_str (fun _ _ => rfl)))) pe_int))
  (pss_cons (as_ O (pe_op op_mod (pe_op op_pow (v_ O) pe_int) pe_int))
  (pss_one (ps_ret (pe_op op_mod (pe_op op_fdiv (pe_op op_mod (pe_op op_add (pe_op op_mul (pe_op op_fdiv (v_ O) pe_int) pe_int) (v_ O)) pe_int) pe_int) (v_ O)))))))))
theorem p_begun {fd : Nat → FuncData} {ca : Nat → Addr} {b : Bx} {cf : CF} {k : Nat} {X : Cx} (O : Ok tb fd ca b cf k X [] (defScope (topS 53)) (fun _ => true)) : PSs X (defBody (topS 53)) t_begun := pss_one (ps_ret (pe_disp (pps_cons pe_str pe_int (pps_cons pe_str pe_dnewK pps_nil)) rfl rfl (by intro h; cases h) (by decide)))
theorem p_result {fd : Nat → FuncData} {ca : Nat → Addr} {b : Bx} {cf : CF} {k : Nat} {Z : Cx} (O : Ok tb fd ca b cf k Z nRes (defScope (topS 51)) (fun _ => true)) (hs : Z.stack = Z.env :: Z.outer) (hf : Z.env.frame = some Z.env.locals) (hex : Z.ex = []) (act : WX → TE) (ha : ∀ (W : WX) (pn : List (Addr × Obj)) (xe : Value → Shared → Prop) (p1 p2 : Pos), Takes (Z.tr pn xe) W → PE (Z.tr pn xe) (.Call (.Name "call" p1) [] [] p2) (act W)) : PSs Z (defBody (topS 51)) (t_result Z.K (fun y => ca (resL.idxOf y)) (ca 17) act) :=
  pss_cons (nones_ O)
  (pss_cons (try_ O hs hf hex (tb := fun W => tAsg (act W) (gName 2)) (fun W pn xe tk _ => pss_one (asT_ O (ha W pn xe _ _ tk))) (fun a oe cls pn => pss_one (asS_ O)))
  (pss_cons (ps_if (pt_cmpR op_isN (v_ O) pe_non (nomark _)) (pss_one (ps_ret (pe_tupN (pa_cons pe_str (pa_cons (v_ O) pa_nil))))) pss_nil)
  (pss_cons (as_ O (pe_disp (pps_cons pe_str (isx_ O) (pps_cons pe_str (isx_ O) pps_nil)) rfl rfl (by intro h; cases h) (by decide)))
  (pss_cons (ps_expr (pe_upd (v_ O) (pe_disp (pps_cons pe_str (isx_ O) (pps_cons pe_str (isx_ O) pps_nil)) rfl rfl (by intro h; cases h) (by decide)) ⟨rfl, rfl, rfl, rfl⟩))
  (pss_cons (ps_expr (pe_upd (v_ O) (pe_disp (pps_cons pe_str (isx_ O) (pps_cons pe_str (isx_ O) pps_nil)) rfl rfl (by intro h; cases h) (by decide)) ⟨rfl, rfl, rfl, rfl⟩))
  (pss_cons (ps_expr (pe_upd (v_ O) (pe_disp (pps_cons pe_str (isx_ O) (pps_cons pe_str (isx_ O) pps_nil)) rfl rfl (by intro h; cases h) (by decide)) ⟨rfl, rfl, rfl, rfl⟩))
  (pss_cons (ps_expr (pe_upd (v_ O) (pe_disp (pps_cons pe_str (isx_ O) (pps_cons pe_str (isx_ O) pps_nil)) rfl rfl (by intro h; cases h) (by decide)) ⟨rfl, rfl, rfl, rfl⟩))
  (pss_cons (ps_expr (pe_upd (v_ O) (pe_disp (pps_cons pe_str (isx_ O) (pps_cons pe_str (isx_ O) pps_nil)) rfl rfl (by intro h; cases h) (by decide)) ⟨rfl, rfl, rfl, rfl⟩))
  (pss_cons (ps_expr (pe_upd (v_ O) (pe_disp (pps_cons pe_str (isx_ O) (pps_cons pe_str (isx_ O) pps_nil)) rfl rfl (by intro h; cases h) (by decide)) ⟨rfl, rfl, rfl, rfl⟩))
  (pss_cons (ps_expr (pe_upd (v_ O) (pe_disp (pps_cons pe_str (isx_ O) (pps_cons pe_str (isx_ O) pps_nil)) rfl rfl (by intro h; cases h) (by decide)) ⟨rfl, rfl, rfl, rfl⟩))
  (pss_cons (ps_expr (pe_upd (v_ O) (pe_disp (pps_cons pe_str (isx_ O) pps_nil) rfl rfl (by intro h; cases h) (by decide)) ⟨rfl, rfl, rfl, rfl⟩))
  (pss_cons (names_ O)
  (pss_one (ps_ret (pe_ifExp (PW.pt (pw_and (pt_cmpR op_eq (len_ O (v_ O)) pe_int (nomark _)) (pw_and1 (pt_val (isv_ O))))) (pe_tupN (pa_cons (pe_ix ix_list (v_ O) pe_int (fun _ _ => rfl)) pa_nil)) (pe_tupN (pa_cons pe_str pa_nil)))))))))))))))))
def fs (ns : List Int) : List Def := [.prim begunP, .prim (drawP ns), .code c2, .code c3, .code c4, .code c5, .code c6, .code c7, .code c8, .code c9, .code c10, .code c11, .code c12, .code c13, .code c14, .code c15, .code c16, .code c17, .code c18, .code c19, .code c20, .code c21, .code c22, .code c23, .code c24, .prim (fun _ => bad), .code c26, .code c27, .code c28, .code c29, .code c30, .code c31, .code c32, .code c33, .code c34, .code c35, .code c36, .code c37, .code c38, .code c39, .code c40]
def lawI : Nat := 40
def pl : List Nat := [53, 52, 54, 55, 56, 57, 60, 61, 64, 22, 21, 23, 24, 25, 26, 45, 47, 42, 44, 28, 29, 32, 49, 43, 48, 51, 46, 66, 62, 63, 27, 35, 36, 33, 37, 40, 41, 38, 39, 65, 67]
theorem b0 {K : PySem.W.Frag} {f : Addr} {fd : FuncData} (F : FunD K "_law_begun" "_law_begun" (defArgs (topS 53)) (defBody (topS 53)) (defScope (topS 53)) [] [] f fd) : Binds K fd [] [] := F.bindsN fun _ _ _ _ _ _ us hl => match us, hl with | [], _ => rfl
theorem b1 {K : PySem.W.Frag} {f : Addr} {fd : FuncData} (F : FunD K "_law_draw" "_law_draw" (defArgs (topS 52)) (defBody (topS 52)) (defScope (topS 52)) [] [] f fd) : Binds K fd ["script", "town", "many"] [] := F.bindsN fun _ _ _ _ _ _ us hl => match us, hl with | [_, _, _], _ => rfl
theorem b2 {K : PySem.W.Frag} {f : Addr} {fd : FuncData} (F : FunD K "_law_combination" "_law_combination" (defArgs (topS 54)) (defBody (topS 54)) (defScope (topS 54)) [] [] f fd) : Binds K fd ["script", "town", "sizes", "most"] [] := F.bindsN fun _ _ _ _ _ _ us hl => match us, hl with | [_, _, _, _], _ => rfl
theorem b3 {K : PySem.W.Frag} {f : Addr} {fd : FuncData} (F : FunD K "_law_model" "_law_model" (defArgs (topS 55)) (defBody (topS 55)) (defScope (topS 55)) [] [] f fd) : Binds K fd ["script", "town", "many", "values", "rules"] [] := F.bindsN fun _ _ _ _ _ _ us hl => match us, hl with | [_, _, _, _, _], _ => rfl
theorem b4 {K : PySem.W.Frag} {f : Addr} {fd : FuncData} (F : FunD K "_law_has" "_law_has" (defArgs (topS 56)) (defBody (topS 56)) (defScope (topS 56)) [] [] f fd) : Binds K fd ["test", "combination_here"] [] := F.bindsN fun _ _ _ _ _ _ us hl => match us, hl with | [_, _], _ => rfl
theorem b5 {K : PySem.W.Frag} {f : Addr} {fd : FuncData} (F : FunD K "_law_tests" "_law_tests" (defArgs (topS 57)) (defBody (topS 57)) (defScope (topS 57)) [] [] f fd) : Binds K fd ["model_here"] [] := F.bindsN fun _ _ _ _ _ _ us hl => match us, hl with | [_], _ => rfl
theorem b6 {K : PySem.W.Frag} {f : Addr} {fd : FuncData} (F : FunD K "_law_fails" "_law_fails" (defArgs (topS 60)) (defBody (topS 60)) (defScope (topS 60)) [] [] f fd) : Binds K fd ["hypothesis", "test"] [] := F.bindsN fun _ _ _ _ _ _ us hl => match us, hl with | [_, _], _ => rfl
theorem b7 {K : PySem.W.Frag} {f : Addr} {fd : FuncData} (F : FunD K "_law_results" "_law_results" (defArgs (topS 61)) (defBody (topS 61)) (defScope (topS 61)) [] [] f fd) : Binds K fd ["script", "town", "tests", "hypothesis", "most"] [] := F.bindsN fun _ _ _ _ _ _ us hl => match us, hl with | [_, _, _, _, _], _ => rfl
theorem b8 {K : PySem.W.Frag} {f : Addr} {fd : FuncData} (F : FunD K "_law_lines" "_law_lines" (defArgs (topS 64)) (defBody (topS 64)) (defScope (topS 64)) [] [] f fd) : Binds K fd ["results_here"] [] := F.bindsN fun _ _ _ _ _ _ us hl => match us, hl with | [_], _ => rfl
theorem b9 {K : PySem.W.Frag} {f : Addr} {fd : FuncData} (F : FunD K "is_ascending" "is_ascending" (defArgs (topS 22)) (defBody (topS 22)) (defScope (topS 22)) [] [] f fd) : Binds K fd ["values"] [] := F.bindsN fun _ _ _ _ _ _ us hl => match us, hl with | [_], _ => rfl
theorem b10 {K : PySem.W.Frag} {f : Addr} {fd : FuncData} (F : FunD K "is_integer" "is_integer" (defArgs (topS 21)) (defBody (topS 21)) (defScope (topS 21)) [] [] f fd) : Binds K fd ["value"] [] := F.bindsN fun _ _ _ _ _ _ us hl => match us, hl with | [_], _ => rfl
theorem b11 {K : PySem.W.Frag} {f : Addr} {fd : FuncData} (F : FunD K "is_pair_of" "is_pair_of" (defArgs (topS 23)) (defBody (topS 23)) (defScope (topS 23)) [] [] f fd) : Binds K fd ["sizes", "value"] [] := F.bindsN fun _ _ _ _ _ _ us hl => match us, hl with | [_, _], _ => rfl
theorem b12 {K : PySem.W.Frag} {f : Addr} {fd : FuncData} (F : FunD K "is_combination_of" "is_combination_of" (defArgs (topS 24)) (defBody (topS 24)) (defScope (topS 24)) [] [] f fd) : Binds K fd ["sizes", "value"] [] := F.bindsN fun _ _ _ _ _ _ us hl => match us, hl with | [_, _], _ => rfl
theorem b13 {K : PySem.W.Frag} {f : Addr} {fd : FuncData} (F : FunD K "is_model" "is_model" (defArgs (topS 25)) (defBody (topS 25)) (defScope (topS 25)) [] [] f fd) : Binds K fd ["value"] [] := F.bindsN fun _ _ _ _ _ _ us hl => match us, hl with | [_], _ => rfl
theorem b14 {K : PySem.W.Frag} {f : Addr} {fd : FuncData} (F : FunD K "check_model" "check_model" (defArgs (topS 26)) (defBody (topS 26)) (defScope (topS 26)) [] [] f fd) : Binds K fd ["model"] [] := F.bindsN fun _ _ _ _ _ _ us hl => match us, hl with | [_], _ => rfl
theorem b15 {K : PySem.W.Frag} {f : Addr} {fd : FuncData} (F : FunD K "check_text" "check_text" (defArgs (topS 45)) (defBody (topS 45)) (defScope (topS 45)) [] [] f fd) : Binds K fd ["text"] [] := F.bindsN fun _ _ _ _ _ _ us hl => match us, hl with | [_], _ => rfl
theorem b16 {K : PySem.W.Frag} {f : Addr} {fd : FuncData} (F : FunD K "rows_of" "rows_of" (defArgs (topS 47)) (defBody (topS 47)) (defScope (topS 47)) [] [] f fd) : Binds K fd ["text"] [] := F.bindsN fun _ _ _ _ _ _ us hl => match us, hl with | [_], _ => rfl
theorem b17 {K : PySem.W.Frag} {f : Addr} {fd : FuncData} (F : FunD K "number_of" "number_of" (defArgs (topS 42)) (defBody (topS 42)) (defScope (topS 42)) [] [] f fd) : Binds K fd ["text"] [] := F.bindsN fun _ _ _ _ _ _ us hl => match us, hl with | [_], _ => rfl
theorem b18 {K : PySem.W.Frag} {f : Addr} {fd : FuncData} (F : FunD K "read_numbers" "read_numbers" (defArgs (topS 44)) (defBody (topS 44)) (defScope (topS 44)) [] [] f fd) : Binds K fd ["text"] [] := F.bindsN fun _ _ _ _ _ _ us hl => match us, hl with | [_], _ => rfl
theorem b19 {K : PySem.W.Frag} {f : Addr} {fd : FuncData} (F : FunD K "has_all" "has_all" (defArgs (topS 28)) (defBody (topS 28)) (defScope (topS 28)) [] [] f fd) : Binds K fd ["test", "combination"] [] := F.bindsN fun _ _ _ _ _ _ us hl => match us, hl with | [_, _], _ => rfl
theorem b20 {K : PySem.W.Frag} {f : Addr} {fd : FuncData} (F : FunD K "is_test_of" "is_test_of" (defArgs (topS 29)) (defBody (topS 29)) (defScope (topS 29)) [] [] f fd) : Binds K fd ["model", "value"] [] := F.bindsN fun _ _ _ _ _ _ us hl => match us, hl with | [_, _], _ => rfl
theorem b21 {K : PySem.W.Frag} {f : Addr} {fd : FuncData} (F : FunD K "is_result" "is_result" (defArgs (topS 32)) (defBody (topS 32)) (defScope (topS 32)) [] [] f fd) : Binds K fd ["model", "value"] [] := F.bindsN fun _ _ _ _ _ _ us hl => match us, hl with | [_, _], _ => rfl
theorem b22 {K : PySem.W.Frag} {f : Addr} {fd : FuncData} (F : FunD K "parse_results" "parse_results" (defArgs (topS 49)) (defBody (topS 49)) (defScope (topS 49)) [] [] f fd) : Binds K fd ["model", "text"] [] := F.bindsN fun _ _ _ _ _ _ us hl => match us, hl with | [_, _], _ => rfl
theorem b23 {K : PySem.W.Frag} {f : Addr} {fd : FuncData} (F : FunD K "read_pairs" "read_pairs" (defArgs (topS 43)) (defBody (topS 43)) (defScope (topS 43)) [] [] f fd) : Binds K fd ["text"] [] := F.bindsN fun _ _ _ _ _ _ us hl => match us, hl with | [_], _ => rfl
theorem b24 {K : PySem.W.Frag} {f : Addr} {fd : FuncData} (F : FunD K "parse_model" "parse_model" (defArgs (topS 48)) (defBody (topS 48)) (defScope (topS 48)) [] [] f fd) : Binds K fd ["text"] [] := F.bindsN fun _ _ _ _ _ _ us hl => match us, hl with | [_], _ => rfl
theorem b25 {K : PySem.W.Frag} {f : Addr} {fd : FuncData} (F : FunD K "_law_result" "_law_result" (defArgs (topS 51)) (defBody (topS 51)) (defScope (topS 51)) [] [] f fd) : Binds K fd ["call"] [] := F.bindsN fun _ _ _ _ _ _ us hl => match us, hl with | [_], _ => rfl
theorem b26 {K : PySem.W.Frag} {f : Addr} {fd : FuncData} (F : FunD K "parse_combination" "parse_combination" (defArgs (topS 46)) (defBody (topS 46)) (defScope (topS 46)) [] [] f fd) : Binds K fd ["model", "text"] [] := F.bindsN fun _ _ _ _ _ _ us hl => match us, hl with | [_, _], _ => rfl
theorem b27 {K : PySem.W.Frag} {f : Addr} {fd : FuncData} (F : FunD K "_law_by_hand" "_law_by_hand" (defArgs (topS 66)) (defBody (topS 66)) (defScope (topS 66)) [] [] f fd) : Binds K fd [] [] := F.bindsN fun _ _ _ _ _ _ us hl => match us, hl with | [], _ => rfl
theorem b28 {K : PySem.W.Frag} {f : Addr} {fd : FuncData} (F : FunD K "_law_pairs" "_law_pairs" (defArgs (topS 62)) (defBody (topS 62)) (defScope (topS 62)) [] [] f fd) : Binds K fd ["combination_here"] [] := F.bindsN fun _ _ _ _ _ _ us hl => match us, hl with | [_], _ => rfl
theorem b29 {K : PySem.W.Frag} {f : Addr} {fd : FuncData} (F : FunD K "_law_text" "_law_text" (defArgs (topS 63)) (defBody (topS 63)) (defScope (topS 63)) [] [] f fd) : Binds K fd ["model_here"] [] := F.bindsN fun _ _ _ _ _ _ us hl => match us, hl with | [_], _ => rfl
theorem b30 {K : PySem.W.Frag} {f : Addr} {fd : FuncData} (F : FunD K "check_combination" "check_combination" (defArgs (topS 27)) (defBody (topS 27)) (defScope (topS 27)) [] [] f fd) : Binds K fd ["model", "combination"] [] := F.bindsN fun _ _ _ _ _ _ us hl => match us, hl with | [_, _], _ => rfl
theorem b31 {K : PySem.W.Frag} {f : Addr} {fd : FuncData} (F : FunD K "combination_text" "combination_text" (defArgs (topS 35)) (defBody (topS 35)) (defScope (topS 35)) [] [] f fd) : Binds K fd ["combination"] [] := F.bindsN fun _ _ _ _ _ _ us hl => match us, hl with | [_], _ => rfl
theorem b32 {K : PySem.W.Frag} {f : Addr} {fd : FuncData} (F : FunD K "format_combination" "format_combination" (defArgs (topS 36)) (defBody (topS 36)) (defScope (topS 36)) [] [] f fd) : Binds K fd ["model", "combination"] [] := F.bindsN fun _ _ _ _ _ _ us hl => match us, hl with | [_, _], _ => rfl
theorem b33 {K : PySem.W.Frag} {f : Addr} {fd : FuncData} (F : FunD K "check_results" "check_results" (defArgs (topS 33)) (defBody (topS 33)) (defScope (topS 33)) [] [] f fd) : Binds K fd ["model", "results"] [] := F.bindsN fun _ _ _ _ _ _ us hl => match us, hl with | [_, _], _ => rfl
theorem b34 {K : PySem.W.Frag} {f : Addr} {fd : FuncData} (F : FunD K "numbers_text" "numbers_text" (defArgs (topS 37)) (defBody (topS 37)) (defScope (topS 37)) [] [] f fd) : Binds K fd ["numbers"] [] := F.bindsN fun _ _ _ _ _ _ us hl => match us, hl with | [_], _ => rfl
theorem b35 {K : PySem.W.Frag} {f : Addr} {fd : FuncData} (F : FunD K "results_text" "results_text" (defArgs (topS 40)) (defBody (topS 40)) (defScope (topS 40)) [] [] f fd) : Binds K fd ["results"] [] := F.bindsN fun _ _ _ _ _ _ us hl => match us, hl with | [_], _ => rfl
theorem b36 {K : PySem.W.Frag} {f : Addr} {fd : FuncData} (F : FunD K "format_results" "format_results" (defArgs (topS 41)) (defBody (topS 41)) (defScope (topS 41)) [] [] f fd) : Binds K fd ["model", "results"] [] := F.bindsN fun _ _ _ _ _ _ us hl => match us, hl with | [_, _], _ => rfl
theorem b37 {K : PySem.W.Frag} {f : Addr} {fd : FuncData} (F : FunD K "model_text" "model_text" (defArgs (topS 38)) (defBody (topS 38)) (defScope (topS 38)) [] [] f fd) : Binds K fd ["model"] [] := F.bindsN fun _ _ _ _ _ _ us hl => match us, hl with | [_], _ => rfl
theorem b38 {K : PySem.W.Frag} {f : Addr} {fd : FuncData} (F : FunD K "format_model" "format_model" (defArgs (topS 39)) (defBody (topS 39)) (defScope (topS 39)) [] [] f fd) : Binds K fd ["model"] [] := F.bindsN fun _ _ _ _ _ _ us hl => match us, hl with | [_], _ => rfl
theorem b39 {K : PySem.W.Frag} {f : Addr} {fd : FuncData} (F : FunD K "_law_changed" "_law_changed" (defArgs (topS 65)) (defBody (topS 65)) (defScope (topS 65)) [] [] f fd) : Binds K fd ["script", "town", "text_here"] [] := F.bindsN fun _ _ _ _ _ _ us hl => match us, hl with | [_, _, _], _ => rfl
theorem b40 {K : PySem.W.Frag} {f : Addr} {fd : FuncData} (F : FunD K "law" "law" (defArgs (topS 67)) (defBody (topS 67)) (defScope (topS 67)) [] [] f fd) : Binds K fd ["script"] [] := F.bindsN fun _ _ _ _ _ _ us hl => match us, hl with | [_], _ => rfl
theorem kb24_0 {K : PySem.W.Frag} {f : Addr} {fd : FuncData} (F : FunD K "parse_model" "parse_model" (defArgs (topS 48)) (defBody (topS 48)) (defScope (topS 48)) [] [] f fd) : KB K fd ["text"] 0 := kb_of F fun kV doc pm an cdv ct us ws h1 h2 => match us, ws, h1, h2 with | [], [_], _, _ => rfl
theorem kb38_0 {K : PySem.W.Frag} {f : Addr} {fd : FuncData} (F : FunD K "format_model" "format_model" (defArgs (topS 39)) (defBody (topS 39)) (defScope (topS 39)) [] [] f fd) : KB K fd ["model"] 0 := kb_of F fun kV doc pm an cdv ct us ws h1 h2 => match us, ws, h1, h2 with | [], [_], _, _ => rfl
theorem kb32_1 {K : PySem.W.Frag} {f : Addr} {fd : FuncData} (F : FunD K "format_combination" "format_combination" (defArgs (topS 36)) (defBody (topS 36)) (defScope (topS 36)) [] [] f fd) : KB K fd ["model", "combination"] 1 := kb_of F fun kV doc pm an cdv ct us ws h1 h2 => match us, ws, h1, h2 with | [_], [_], _, _ => rfl
theorem kb26_1 {K : PySem.W.Frag} {f : Addr} {fd : FuncData} (F : FunD K "parse_combination" "parse_combination" (defArgs (topS 46)) (defBody (topS 46)) (defScope (topS 46)) [] [] f fd) : KB K fd ["model", "text"] 1 := kb_of F fun kV doc pm an cdv ct us ws h1 h2 => match us, ws, h1, h2 with | [_], [_], _, _ => rfl
theorem kb36_1 {K : PySem.W.Frag} {f : Addr} {fd : FuncData} (F : FunD K "format_results" "format_results" (defArgs (topS 41)) (defBody (topS 41)) (defScope (topS 41)) [] [] f fd) : KB K fd ["model", "results"] 1 := kb_of F fun kV doc pm an cdv ct us ws h1 h2 => match us, ws, h1, h2 with | [_], [_], _, _ => rfl
theorem kb22_1 {K : PySem.W.Frag} {f : Addr} {fd : FuncData} (F : FunD K "parse_results" "parse_results" (defArgs (topS 49)) (defBody (topS 49)) (defScope (topS 49)) [] [] f fd) : KB K fd ["model", "text"] 1 := kb_of F fun kV doc pm an cdv ct us ws h1 h2 => match us, ws, h1, h2 with | [_], [_], _, _ => rfl
section
variable {P : Program} {w : World} {K : PySem.W.Frag} {mg : Str → Option Value} {base : Heap}
def lam : List Str := ["_law_by_hand", "law"]
theorem step {fd : Nat → FuncData} {ca : Nat → Addr} {z : Zt} {cl : Nat → Value} {ns : List Int} {fu : Nat} (hK : z.K = K) (hns : z.ns = ns) (hw : z.wd = w) (RC : ∀ j ∈ resL, ResC K (fun y => ca (resL.idxOf y)) (ca 17) j) (LT : ∀ p ∈ (tfL lam).map (He.cT K), LamX.TabB base mg p.1 p.2) (htb : z.tb = tbK K lam) (hfa : ∀ j, z.fa j = He.fAd K (tb.dat j)) (A0 : Fx tb fd ca z cl K mg)
    (F : ∀ j, j < tb.fn.length → FunD K (tb.nm j) (tb.ql j) (defArgs (topS (pl.getD j 0))) (defBody (topS (pl.getD j 0))) (defScope (topS (pl.getD j 0))) [] [] (z.fa j) (fd j)) (n : Nat)
    (IH : ∀ i, i < tb.fn.length → FnOk P w K mg base (L2.CX P w) (5 * n) (z.fa i) (fd i) (tb.ps i) (spF z cl (callN (fs ns) fu n i) (tb.ps i).length)) :
    ∀ j, j < tb.fn.length → ∀ d, (fs ns)[j]? = some d → FnOk P w K mg base (L2.CX P w) (5 * n + 5) (z.fa j) (fd j) (tb.ps j) (spF z cl (callD (callN (fs ns) fu n) fu d) (tb.ps j).length)
  | 0, hj, d, e => by
    cases (Option.some.inj e)
    exact prim_ok hw A0 IH (F 0 hj) (N := []) (ps := []) (by decide +kernel) (fun X b e O _ => p_begun O) (fun vs H Q E h => begun_read _ h)
  | 1, hj, d, e => by
    cases (Option.some.inj e)
    exact prim_ok hw A0 IH (F 1 hj) (N := n_draw) (ps := ["script", "town", "many"]) (by decide +kernel) (fun X b e O _ => e ▸ p_draw O) (fun vs H Q E h => draw_read _ rfl hK (hns.symm ▸ h))
  | 2, hj, d, e => by
    cases (Option.some.inj e)
    exact def_ok hw A0 IH (F 2 hj) (N := n2) (ps := ["script", "town", "sizes", "most"]) (fn := c2) (by decide +kernel) fun X b ez ec O po ST => d2 O po
  | 3, hj, d, e => by
    cases (Option.some.inj e)
    exact def_ok hw A0 IH (F 3 hj) (N := n3) (ps := ["script", "town", "many", "values", "rules"]) (fn := c3) (by decide +kernel) fun X b ez ec O po ST => d3 O po
  | 4, hj, d, e => by
    cases (Option.some.inj e)
    exact def_ok hw A0 IH (F 4 hj) (N := n4) (ps := ["test", "combination_here"]) (fn := c4) (by decide +kernel) fun X b ez ec O po ST => d4 O po
  | 5, hj, d, e => by
    cases (Option.some.inj e)
    exact def_ok hw A0 IH (F 5 hj) (N := n5) (ps := ["model_here"]) (fn := c5) (by decide +kernel) fun X b ez ec O po ST => d5 O po
  | 6, hj, d, e => by
    cases (Option.some.inj e)
    exact def_ok hw A0 IH (F 6 hj) (N := n6) (ps := ["hypothesis", "test"]) (fn := c6) (by decide +kernel) fun X b ez ec O po ST => d6 O po
  | 7, hj, d, e => by
    cases (Option.some.inj e)
    exact def_ok hw A0 IH (F 7 hj) (N := n7) (ps := ["script", "town", "tests", "hypothesis", "most"]) (fn := c7) (by decide +kernel) fun X b ez ec O po ST => d7 O po
  | 8, hj, d, e => by
    cases (Option.some.inj e)
    exact def_ok hw A0 IH (F 8 hj) (N := n8) (ps := ["results_here"]) (fn := c8) (by decide +kernel) fun X b ez ec O po ST => d8 O po
  | 9, hj, d, e => by
    cases (Option.some.inj e)
    exact def_ok hw A0 IH (F 9 hj) (N := n9) (ps := ["values"]) (fn := c9) (by decide +kernel) fun X b ez ec O po ST => d9 O po
  | 10, hj, d, e => by
    cases (Option.some.inj e)
    exact def_ok hw A0 IH (F 10 hj) (N := n10) (ps := ["value"]) (fn := c10) (by decide +kernel) fun X b ez ec O po ST => d10 O po
  | 11, hj, d, e => by
    cases (Option.some.inj e)
    exact def_ok hw A0 IH (F 11 hj) (N := n11) (ps := ["sizes", "value"]) (fn := c11) (by decide +kernel) fun X b ez ec O po ST => d11 O po
  | 12, hj, d, e => by
    cases (Option.some.inj e)
    exact def_ok hw A0 IH (F 12 hj) (N := n12) (ps := ["sizes", "value"]) (fn := c12) (by decide +kernel) fun X b ez ec O po ST => d12 O po
  | 13, hj, d, e => by
    cases (Option.some.inj e)
    exact def_ok hw A0 IH (F 13 hj) (N := n13) (ps := ["value"]) (fn := c13) (by decide +kernel) fun X b ez ec O po ST => d13 O po
  | 14, hj, d, e => by
    cases (Option.some.inj e)
    exact def_ok hw A0 IH (F 14 hj) (N := n14) (ps := ["model"]) (fn := c14) (by decide +kernel) fun X b ez ec O po ST => d14 O po
  | 15, hj, d, e => by
    cases (Option.some.inj e)
    exact def_ok hw A0 IH (F 15 hj) (N := n15) (ps := ["text"]) (fn := c15) (by decide +kernel) fun X b ez ec O po ST => d15 O po
  | 16, hj, d, e => by
    cases (Option.some.inj e)
    exact def_ok hw A0 IH (F 16 hj) (N := n16) (ps := ["text"]) (fn := c16) (by decide +kernel) fun X b ez ec O po ST => d16 O po
  | 17, hj, d, e => by
    cases (Option.some.inj e)
    exact def_ok hw A0 IH (F 17 hj) (N := n17) (ps := ["text"]) (fn := c17) (by decide +kernel) fun X b ez ec O po ST => d17 O po
  | 18, hj, d, e => by
    cases (Option.some.inj e)
    exact def_ok hw A0 IH (F 18 hj) (N := n18) (ps := ["text"]) (fn := c18) (by decide +kernel) fun X b ez ec O po ST => d18 O po ST
  | 19, hj, d, e => by
    cases (Option.some.inj e)
    exact def_ok hw A0 IH (F 19 hj) (N := n19) (ps := ["test", "combination"]) (fn := c19) (by decide +kernel) fun X b ez ec O po ST => d19 O po
  | 20, hj, d, e => by
    cases (Option.some.inj e)
    exact def_ok hw A0 IH (F 20 hj) (N := n20) (ps := ["model", "value"]) (fn := c20) (by decide +kernel) fun X b ez ec O po ST => d20 O po
  | 21, hj, d, e => by
    cases (Option.some.inj e)
    exact def_ok hw A0 IH (F 21 hj) (N := n21) (ps := ["model", "value"]) (fn := c21) (by decide +kernel) fun X b ez ec O po ST => d21 O po
  | 22, hj, d, e => by
    cases (Option.some.inj e)
    exact def_ok hw A0 IH (F 22 hj) (N := n22) (ps := ["model", "text"]) (fn := c22) (by decide +kernel) fun X b ez ec O po ST => d22 O po
  | 23, hj, d, e => by
    cases (Option.some.inj e)
    exact def_ok hw A0 IH (F 23 hj) (N := n23) (ps := ["text"]) (fn := c23) (by decide +kernel) fun X b ez ec O po ST => d23 O po
  | 24, hj, d, e => by
    cases (Option.some.inj e)
    exact def_ok hw A0 IH (F 24 hj) (N := n24) (ps := ["text"]) (fn := c24) (by decide +kernel) fun X b ez ec O po ST => d24 O po ST
  | 25, hj, d, e => by
    cases (Option.some.inj e)
    exact fn_bad fun _ _ => rfl
  | 26, hj, d, e => by
    cases (Option.some.inj e)
    exact def_ok hw A0 IH (F 26 hj) (N := n26) (ps := ["model", "text"]) (fn := c26) (by decide +kernel) fun X b ez ec O po ST => d26 O po
  | 27, hj, d, e => by
    cases (Option.some.inj e)
    exact def_okL hw A0 IH (F 27 hj) (N := n27) (ps := []) (fn := c27) (by decide +kernel) (htb ▸ lamT (lam := lam) (i := 0) rfl (F 27 hj) (hfa 27) LT) fun X b ez ec eK O po L => d27 O po L (eK ▸ resFx_of A0 ez ec rfl (F 25 (by decide)) (by decide +kernel) (fun j hj => ⟨_, List.getElem?_eq_getElem (show j < 18 by omega)⟩) (fun Z b2 act O hs hf hex ha => p_result O hs hf hex act ha) RC)
  | 28, hj, d, e => by
    cases (Option.some.inj e)
    exact def_ok hw A0 IH (F 28 hj) (N := n28) (ps := ["combination_here"]) (fn := c28) (by decide +kernel) fun X b ez ec O po ST => d28 O po
  | 29, hj, d, e => by
    cases (Option.some.inj e)
    exact def_ok hw A0 IH (F 29 hj) (N := n29) (ps := ["model_here"]) (fn := c29) (by decide +kernel) fun X b ez ec O po ST => d29 O po
  | 30, hj, d, e => by
    cases (Option.some.inj e)
    exact def_ok hw A0 IH (F 30 hj) (N := n30) (ps := ["model", "combination"]) (fn := c30) (by decide +kernel) fun X b ez ec O po ST => d30 O po
  | 31, hj, d, e => by
    cases (Option.some.inj e)
    exact def_ok hw A0 IH (F 31 hj) (N := n31) (ps := ["combination"]) (fn := c31) (by decide +kernel) fun X b ez ec O po ST => d31 O po
  | 32, hj, d, e => by
    cases (Option.some.inj e)
    exact def_ok hw A0 IH (F 32 hj) (N := n32) (ps := ["model", "combination"]) (fn := c32) (by decide +kernel) fun X b ez ec O po ST => d32 O po
  | 33, hj, d, e => by
    cases (Option.some.inj e)
    exact def_ok hw A0 IH (F 33 hj) (N := n33) (ps := ["model", "results"]) (fn := c33) (by decide +kernel) fun X b ez ec O po ST => d33 O po
  | 34, hj, d, e => by
    cases (Option.some.inj e)
    exact def_ok hw A0 IH (F 34 hj) (N := n34) (ps := ["numbers"]) (fn := c34) (by decide +kernel) fun X b ez ec O po ST => d34 O po
  | 35, hj, d, e => by
    cases (Option.some.inj e)
    exact def_ok hw A0 IH (F 35 hj) (N := n35) (ps := ["results"]) (fn := c35) (by decide +kernel) fun X b ez ec O po ST => d35 O po
  | 36, hj, d, e => by
    cases (Option.some.inj e)
    exact def_ok hw A0 IH (F 36 hj) (N := n36) (ps := ["model", "results"]) (fn := c36) (by decide +kernel) fun X b ez ec O po ST => d36 O po
  | 37, hj, d, e => by
    cases (Option.some.inj e)
    exact def_ok hw A0 IH (F 37 hj) (N := n37) (ps := ["model"]) (fn := c37) (by decide +kernel) fun X b ez ec O po ST => d37 O po
  | 38, hj, d, e => by
    cases (Option.some.inj e)
    exact def_ok hw A0 IH (F 38 hj) (N := n38) (ps := ["model"]) (fn := c38) (by decide +kernel) fun X b ez ec O po ST => d38 O po
  | 39, hj, d, e => by
    cases (Option.some.inj e)
    exact def_ok hw A0 IH (F 39 hj) (N := n39) (ps := ["script", "town", "text_here"]) (fn := c39) (by decide +kernel) fun X b ez ec O po ST => d39 O po
  | 40, hj, d, e => by
    cases (Option.some.inj e)
    exact def_okL hw A0 IH (F 40 hj) (N := n40) (ps := ["script"]) (fn := c40) (by decide +kernel) (htb ▸ lamT (lam := lam) (i := 1) rfl (F 40 hj) (hfa 40) LT) fun X b ez ec eK O po L => d40 O po L (eK ▸ resFx_of A0 ez ec rfl (F 25 (by decide)) (by decide +kernel) (fun j hj => ⟨_, List.getElem?_eq_getElem (show j < 18 by omega)⟩) (fun Z b2 act O hs hf hex ha => p_result O hs hf hex act ha) RC)
  | j + 41, hj, d, e => absurd hj (by show ¬ (j + 41 < 41); omega)
end
theorem binds {K : PySem.W.Frag} {z : Zt} {fd : Nat → FuncData} (F : ∀ j, j < tb.fn.length → FunD K (tb.nm j) (tb.ql j) (defArgs (topS (pl.getD j 0))) (defBody (topS (pl.getD j 0))) (defScope (topS (pl.getD j 0))) [] [] (z.fa j) (fd j)) : ∀ j, j < tb.fn.length → Binds K (fd j) (tb.ps j) []
  | 0, hj => b0 (F 0 hj)
  | 1, hj => b1 (F 1 hj)
  | 2, hj => b2 (F 2 hj)
  | 3, hj => b3 (F 3 hj)
  | 4, hj => b4 (F 4 hj)
  | 5, hj => b5 (F 5 hj)
  | 6, hj => b6 (F 6 hj)
  | 7, hj => b7 (F 7 hj)
  | 8, hj => b8 (F 8 hj)
  | 9, hj => b9 (F 9 hj)
  | 10, hj => b10 (F 10 hj)
  | 11, hj => b11 (F 11 hj)
  | 12, hj => b12 (F 12 hj)
  | 13, hj => b13 (F 13 hj)
  | 14, hj => b14 (F 14 hj)
  | 15, hj => b15 (F 15 hj)
  | 16, hj => b16 (F 16 hj)
  | 17, hj => b17 (F 17 hj)
  | 18, hj => b18 (F 18 hj)
  | 19, hj => b19 (F 19 hj)
  | 20, hj => b20 (F 20 hj)
  | 21, hj => b21 (F 21 hj)
  | 22, hj => b22 (F 22 hj)
  | 23, hj => b23 (F 23 hj)
  | 24, hj => b24 (F 24 hj)
  | 25, hj => b25 (F 25 hj)
  | 26, hj => b26 (F 26 hj)
  | 27, hj => b27 (F 27 hj)
  | 28, hj => b28 (F 28 hj)
  | 29, hj => b29 (F 29 hj)
  | 30, hj => b30 (F 30 hj)
  | 31, hj => b31 (F 31 hj)
  | 32, hj => b32 (F 32 hj)
  | 33, hj => b33 (F 33 hj)
  | 34, hj => b34 (F 34 hj)
  | 35, hj => b35 (F 35 hj)
  | 36, hj => b36 (F 36 hj)
  | 37, hj => b37 (F 37 hj)
  | 38, hj => b38 (F 38 hj)
  | 39, hj => b39 (F 39 hj)
  | 40, hj => b40 (F 40 hj)
  | j + 41, hj => absurd hj (by show ¬ (j + 41 < 41); omega)
theorem kbs {K : PySem.W.Frag} {z : Zt} {fd : Nat → FuncData} (F : ∀ j, j < tb.fn.length → FunD K (tb.nm j) (tb.ql j) (defArgs (topS (pl.getD j 0))) (defBody (topS (pl.getD j 0))) (defScope (topS (pl.getD j 0))) [] [] (z.fa j) (fd j)) (j n : Nat) (h : (j, n) ∈ tb.kb) : KB K (fd j) (tb.ps j) n := by
  simp only [tb, List.mem_cons, List.not_mem_nil, or_false, Prod.mk.injEq] at h
  rcases h with ⟨rfl, rfl⟩ | ⟨rfl, rfl⟩ | ⟨rfl, rfl⟩ | ⟨rfl, rfl⟩ | ⟨rfl, rfl⟩ | ⟨rfl, rfl⟩
  · exact kb24_0 (F 24 (by decide))
  · exact kb38_0 (F 38 (by decide))
  · exact kb32_1 (F 32 (by decide))
  · exact kb26_1 (F 26 (by decide))
  · exact kb36_1 (F 36 (by decide))
  · exact kb22_1 (F 22 (by decide))
abbrev rowR : PySem.W.OpenRow := PySem.W.OpenLaw.row PySem.Challenge.rw_faultcover_k32_texts
abbrev hk : PySem.W.Hook := He.hookX 4 (faL tb) (fnL topS tb pl) [] (tfL lam) (exK lam tb.ex true)
def ob (s : PySem.W.SharedT) : He.AlX := He.obsX 4 (faL tb) (fnL topS tb pl) [] (tfL lam) (exK lam tb.ex true) (HandSHeadRun.getT s)
theorem ob_eq (s : PySem.W.SharedT) : ob s = hk.obs s.abs := He.obsX_eq (HandSHeadRun.getT_eq s)
def loose0 : List Str := ["__name__", "TestError", "InvalidModel", "InvalidTest", "InvalidCombination", "InvalidSuite", "InvalidStrength", "InvalidHypothesis", "InvalidResults", "InvalidNumber", "InvalidIndex", "InvalidText", "TooLarge", "TooMany", "Unexplained", "Contradiction", "Same", "InUse", "NothingToUndo", "RULES"]
def loose1 : List Str := ["is_integer", "is_ascending", "is_pair_of", "is_combination_of", "is_model", "check_model", "check_combination", "has_all", "is_test_of", "RESULTS", "is_result", "check_results", "combination_text", "format_combination", "numbers_text", "model_text", "format_model", "results_text", "format_results", "number_of"]
def loose2 : List Str := ["read_pairs", "read_numbers", "check_text", "parse_combination", "rows_of", "parse_model", "parse_results", "_law_result", "_law_draw", "_law_begun", "_law_combination", "_law_model", "_law_has", "_law_tests", "_law_parts", "_law_targets", "_law_fails", "_law_results", "_law_pairs", "_law_text"]
def loose3 : List Str := ["_law_lines", "_law_changed", "_law_by_hand"]
def loose : List Str := loose0 ++ loose1 ++ loose2 ++ loose3
set_option maxHeartbeats 0 in
theorem run (w : World) : HandSHeadRun.RunEq rowR (PySem.W.view rowR.prog [67]) hk ob 12000 loose w := by
  intro os
  kernel_rfl
/-- the law's def answers as the evaluator says -/
theorem law_fn {w : World} {K : PySem.W.Frag} {mg : Str → Option Value} {h : Heap} {f : Addr} (X : K.In h) (G : h.Ns mainGlobals mg) (hf : mg ("law" : Str) = some (.ref f)) (c : He.SaysD (faL tb) (fnL topS tb pl) K) (RB : resB tb.ex K = true) (fu lv : Nat) :
    ∃ fd : FuncData, (∀ (s : Shared) (v : Value), BindsTo s fd ⟨[v], []⟩ [("script", v)]) ∧ ∃ (fa : Nat → Addr) (cl : Nat → Value), ∀ (ns : List Int) (a : Addr) (base : Heap), (∀ p ∈ (tfL lam).map (He.cT K), LamX.TabB base mg p.1 p.2) → FnOk (PySem.Challenge.rw_faultcover_k32_texts).prog w K mg base (L2.CX (PySem.Challenge.rw_faultcover_k32_texts).prog w) (5 * lv) f fd ["script"] (spF ⟨fa, K, a, ns, tbK K lam, w, He.ga K tb.cn⟩ cl (callN (fs ns) fu lv lawI) 1) := by
  have hx : ∀ j, ∃ fd, j < tb.fn.length → FunD K (tb.nm j) (tb.ql j) (defArgs (topS (pl.getD j 0))) (defBody (topS (pl.getD j 0))) (defScope (topS (pl.getD j 0))) [] [] (He.fAd K (tb.dat j)) fd := fun j => by
    by_cases hj : j < tb.fn.length
    · obtain ⟨fd, F⟩ := says_fn c j hj
      exact ⟨fd, fun _ => F⟩
    · exact ⟨PySem.W.fnOf "" "" (defArgs (topS 0)) [] (defScope (topS 0)) .none .none .none .none none .none .none, fun h => absurd h hj⟩
  obtain ⟨fd, F⟩ := Classical.axiomOfChoice hx
  have hfa : f = He.ga K (tb.nm 40) := by
    have e := He.glo_ok X G (says_mem (f := .glo "law") c (by exact List.mem_append_left _ (List.mem_map.mpr ⟨("law", ["script"]), List.mem_of_getElem? (i := 40) (by rfl), rfl⟩)))
    exact Value.ref.inj (Option.some.inj (hf.symm.trans e))
  refine ⟨fd 40, fun s v => ?_, fun j => He.fAd K (tb.dat j), fun j => .ref (He.ga K (tb.ex.getD j "")), fun ns a base LT => ?_⟩
  · have b := FunD.bindsA (ps := ["script"]) (F 40 (by decide)) fun _ _ _ _ _ _ us hl => match us, hl with | [_], _ => rfl
    exact b s [v] rfl
  · have A0 : Fx tb fd (fun j => He.ga K (tb.ex.getD j "")) ⟨fun j => He.fAd K (tb.dat j), K, a, ns, tbK K lam, w, He.ga K tb.cn⟩ (fun j => .ref (He.ga K (tb.ex.getD j ""))) K mg := fx_of X G c (fun _ _ => rfl) rfl (fun j hj => (F j hj).kp) (binds (z := ⟨fun j => He.fAd K (tb.dat j), K, a, ns, tbK K lam, w, He.ga K tb.cn⟩) F) (kbs (z := ⟨fun j => He.fAd K (tb.dat j), K, a, ns, tbK K lam, w, He.ga K tb.cn⟩) F)
    rw [hfa]
    exact levels (T := tb) (z := ⟨fun j => He.fAd K (tb.dat j), K, a, ns, tbK K lam, w, He.ga K tb.cn⟩) (fs := fs ns) (by rfl) (fun n j hj IH d e => step rfl rfl rfl (resB_ok RB) LT rfl (fun _ => rfl)  A0 F n IH j hj d e) lv 40 (by decide)
def fu : Nat := 30000
def lv : Nat := 40
abbrev cN (ns : List Int) (n : Nat) : CF := callN (fs ns) fu n
theorem l_f_law_begun (ns : List Int) (hl : ns.length ≤ 63) (n : Nat) : ∀ tl, (cN ns (n + 1)) 0 [] (.non :: tl) = .ok (obD 0) (.town 0 [] :: tl) := fun tl => rfl
theorem l_f_is_ascending (ns : List Int) (hl : ns.length ≤ 63) (n : Nat) : AscOk (cN ns (n + 1)) 9 := fun xs h => ev_is_ascending (cN ns (n + 0)) fu h
theorem l_f_is_integer (ns : List Int) (hl : ns.length ≤ 63) (n : Nat) : IntOk (cN ns (n + 1)) 10 := fun d h => ev_is_integer (cN ns (n + 0)) fu h
theorem l_f_is_pair_of (ns : List Int) (hl : ns.length ≤ 63) (n : Nat) : PairOk (cN ns (n + 2)) 11 := fun ms d h => ev_is_pair_of fu (l_f_is_integer ns hl (n + 0)) ms h
theorem l_f_is_combination_of (ns : List Int) (hl : ns.length ≤ 63) (n : Nat) : CombOk (cN ns (n + 3)) 12 := fun ms d h => ev_is_combination_of fu (l_f_is_ascending ns hl (n + 1)) (l_f_is_pair_of ns hl (n + 0)) ms h
theorem l_f_is_model (ns : List Int) (hl : ns.length ≤ 63) (n : Nat) : ModelOk (cN ns (n + 4)) 13 := fun d h => ev_is_model fu (l_f_is_ascending ns hl (n + 2)) (l_f_is_combination_of ns hl (n + 0)) (l_f_is_integer ns hl (n + 2)) h
theorem l_f_check_model (ns : List Int) (hl : ns.length ≤ 63) (n : Nat) : CheckOk (cN ns (n + 5)) 14 0 := fun d h => ev_check_model fu (l_f_is_model ns hl (n + 0)) h
theorem l_f_check_text (ns : List Int) (hl : ns.length ≤ 63) (n : Nat) : ChkTx (cN ns (n + 1)) 15 5 := fun d h => by have := ev_check_text (cf := (cN ns (n + 0))) (x := 5) fu h; exact this
theorem l_f_number_of (ns : List Int) (hl : ns.length ≤ 63) (n : Nat) : NumOf (cN ns (n + 1)) 17 5 := fun l h => by have := ev_number_of (cf := (cN ns (n + 0))) (x := 5) fu h; exact this
theorem l_f_read_pairs (ns : List Int) (hl : ns.length ≤ 63) (n : Nat) : RdPrs (cN ns (n + 2)) 23 5 := fun l h1 h2 => by have := ev_read_pairs (x := 5) fu (l_f_number_of ns hl (n + 0)) h1 h2; exact this
theorem l_f_parse_combination (ns : List Int) (hl : ns.length ≤ 63) (n : Nat) : PCmb (cN ns (n + 6)) 26 5 := parse_cmb_ok (fu := fu) (l_f_check_model ns hl (n + 0)) (l_f_check_text ns hl (n + 4)) (l_f_is_combination_of ns hl (n + 2)) (l_f_read_pairs ns hl (n + 3)) (fun ds => rfl)
theorem l_f_read_numbers (ns : List Int) (hl : ns.length ≤ 63) (n : Nat) : RdNums (cN ns (n + 2)) 18 5 := fun l h => by have := ev_read_numbers (x := 5) fu (l_f_number_of ns hl (n + 0)) h; exact this
theorem l_f_rows_of (ns : List Int) (hl : ns.length ≤ 63) (n : Nat) : RowsOf (cN ns (n + 2)) 16 5 := ⟨fun l h1 h2 => by have := ev_rows_of (x := 5) fu (l_f_check_text ns hl (n + 0)) h1 h2; exact this, fun d h1 h2 => by have := ev_rows_ofX (x := 5) fu (l_f_check_text ns hl (n + 0)) h1 h2; exact this⟩
theorem l_f_parse_model (ns : List Int) (hl : ns.length ≤ 63) (n : Nat) : PMdl (cN ns (n + 5)) 24 5 := parse_mdl_ok (fu := fu) (l_f_is_model ns hl (n + 0)) (l_f_read_numbers ns hl (n + 2)) (l_f_read_pairs ns hl (n + 2)) (l_f_rows_of ns hl (n + 2)) (fun ds => rfl)
theorem l_f_has_all (ns : List Int) (hl : ns.length ≤ 63) (n : Nat) : HasOk (cN ns (n + 1)) 19 := fun t c h => ev_has_all (cN ns (n + 0)) fu t c h
theorem l_f_is_test_of (ns : List Int) (hl : ns.length ≤ 63) (n : Nat) : ∀ (ms : List Int) (cs : List (List (Int × Int))) (d : D), (∀ c ∈ cs, CbOk ms c) → Pl d → (cN ns (n + 2)) 20 [mdD ms cs, d] = Ev.ret (.bool (isTestD ms cs d)) := fun ms cs d hc h => ev_is_test_of fu (l_f_has_all ns hl (n + 0)) (l_f_is_integer ns hl (n + 0)) (fun c hcc p hp => ⟨((hc c hcc).rng p hp).1, ((hc c hcc).rng p hp).2.1⟩) h
theorem l_f_is_result (ns : List Int) (hl : ns.length ≤ 63) (n : Nat) : ResOk (cN ns (n + 3)) 21 := fun ms cs d h1 h2 => by have := ev_is_result fu (l_f_is_test_of ns hl (n + 0)) h1 h2; exact this
theorem l_f_parse_results (ns : List Int) (hl : ns.length ≤ 63) (n : Nat) : PRes (cN ns (n + 6)) 22 5 0 := parse_res_ok (fu := fu) (l_f_check_model ns hl (n + 0)) (l_f_is_result ns hl (n + 2)) (l_f_read_numbers ns hl (n + 3)) (l_f_rows_of ns hl (n + 3)) (fun ds => rfl)
theorem l_f_law_by_hand (ns : List Int) (hl : ns.length ≤ 63) (n : Nat) : LHand (cN ns (n + 7)) 27 := by have := ev_by_hand fu (l_f_parse_combination ns hl (n + 0)) (l_f_parse_model ns hl (n + 1)) (l_f_parse_results ns hl (n + 0)); exact this
theorem l_f_law_draw (ns : List Int) (hl : ns.length ≤ 63) (n : Nat) : DrawOk (cN ns (n + 1)) 1 := fun many h0 h1 => draw_ok hl h0 h1
theorem l_f_law_changed (ns : List Int) (hl : ns.length ≤ 63) (n : Nat) : LChg (cN ns (n + 2)) 39 := fun l h1 h2 => by have := ev_law_changed fu (l_f_law_draw ns hl (n + 0)) h1 h2; exact this
theorem l_f_law_combination (ns : List Int) (hl : ns.length ≤ 63) (n : Nat) : CombinOk (cN ns (n + 2)) 2 := fun ms most h1 h2 h3 h4 h5 => ev_law_combination fu (l_f_law_draw ns hl (n + 0)) ms most h1 h2 h3 h4 h5
theorem l_f_law_lines (ns : List Int) (hl : ns.length ≤ 63) (n : Nat) : RsTx (cN ns (n + 1)) 8 := fun rs h => by have := ev_law_lines (cf := (cN ns (n + 0))) (fu := fu) h; exact this
theorem l_f_law_model (ns : List Int) (hl : ns.length ≤ 63) (n : Nat) : ModelDraw (cN ns (n + 3)) 3 := fun b v r h1 h2 h3 h4 h5 => ev_law_model fu (l_f_law_draw ns hl (n + 1)) (l_f_law_combination ns hl (n + 0)) b v r h1 h2 h3 h4 h5
theorem l_f_law_pairs (ns : List Int) (hl : ns.length ≤ 63) (n : Nat) : CmbT (cN ns (n + 1)) 28 := fun c h1 h2 => by have := ev_law_pairs (cf := (cN ns (n + 0))) (fu := fu) h1 h2; exact this
theorem l_f_law_has (ns : List Int) (hl : ns.length ≤ 63) (n : Nat) : HasOk (cN ns (n + 1)) 4 := fun t c h => ev_law_has (cN ns (n + 0)) fu t c h
theorem l_f_law_fails (ns : List Int) (hl : ns.length ≤ 63) (n : Nat) : DoesFail (cN ns (n + 2)) 6 := fun h t h1 => by have := ev_law_fails fu (l_f_law_has ns hl (n + 0)) h1; exact this
theorem l_f_law_results (ns : List Int) (hl : ns.length ≤ 63) (n : Nat) : LRes (cN ns (n + 3)) 7 := fun ts h most h0 h1 h2 h3 => by have := ev_law_results fu (l_f_law_draw ns hl (n + 1)) (l_f_law_fails ns hl (n + 0)) h0 h1 h2 h3; exact this
theorem l_f_law_tests (ns : List Int) (hl : ns.length ≤ 63) (n : Nat) : LTests (cN ns (n + 2)) 5 := fun ms cs h1 h2 h3 => ev_law_tests fu (l_f_law_has ns hl (n + 0)) h1 h2 h3
theorem l_f_law_text (ns : List Int) (hl : ns.length ≤ 63) (n : Nat) : MdlT (cN ns (n + 2)) 29 := fun us cs h => by have := ev_law_text (fu := fu) (l_f_law_pairs ns hl (n + 0)) h; exact this
theorem l_f_check_combination (ns : List Int) (hl : ns.length ≤ 63) (n : Nat) : ∀ (ms : List Int) (cs : List (List (Int × Int))) (d : D), Pl d → (cN ns (n + 4)) 30 [mdD ms cs, d] = if isCombD ms d = true then Ev.ret .none else thr 2 := fun ms cs d h => ev_check_combination fu (l_f_is_combination_of ns hl (n + 0)) h
theorem l_f_combination_text (ns : List Int) (hl : ns.length ≤ 63) (n : Nat) : CmbT (cN ns (n + 1)) 31 := fun c h1 h2 => by have := ev_combination_text (cf := (cN ns (n + 0))) (fu := fu) h1 h2; exact this
theorem l_f_format_combination (ns : List Int) (hl : ns.length ≤ 63) (n : Nat) : FmC (cN ns (n + 6)) 32 2 := fm_c (fu := fu) (l_f_check_combination ns hl (n + 1)) (l_f_check_model ns hl (n + 0)) (l_f_combination_text ns hl (n + 4)) (fun ds => rfl)
theorem l_f_numbers_text (ns : List Int) (hl : ns.length ≤ 63) (n : Nat) : NumsT (cN ns (n + 1)) 34 := fun ns h1 h2 => by have := ev_numbers_text (cf := (cN ns (n + 0))) (fu := fu) h1 h2; exact this
theorem l_f_model_text (ns : List Int) (hl : ns.length ≤ 63) (n : Nat) : MdlT (cN ns (n + 2)) 37 := fun us cs h => by have := ev_model_text (fu := fu) (l_f_combination_text ns hl (n + 0)) (l_f_numbers_text ns hl (n + 0)) h; exact this
theorem l_f_format_model (ns : List Int) (hl : ns.length ≤ 63) (n : Nat) : FmM (cN ns (n + 6)) 38 0 := fm_m (fu := fu) (l_f_check_model ns hl (n + 0)) (l_f_model_text ns hl (n + 3)) (fun ds => rfl)
theorem l_f_check_results (ns : List Int) (hl : ns.length ≤ 63) (n : Nat) : CheckRes (cN ns (n + 4)) 33 8 := fun ms cs d h1 h2 => by have := ev_check_results (x := 8) fu (l_f_is_result ns hl (n + 0)) h1 h2; exact this
theorem l_f_results_text (ns : List Int) (hl : ns.length ≤ 63) (n : Nat) : RsTx (cN ns (n + 2)) 35 := fun rs h => by have := ev_results_text (fu := fu) (l_f_numbers_text ns hl (n + 0)) h; exact this
theorem l_f_format_results (ns : List Int) (hl : ns.length ≤ 63) (n : Nat) : FmR (cN ns (n + 6)) 36 8 := fm_r (fu := fu) (l_f_check_model ns hl (n + 0)) (l_f_check_results ns hl (n + 1)) (l_f_results_text ns hl (n + 3)) (fun ds => rfl)
theorem holds (ns : List Int) (hl : ns.length ≤ 63) (K : PySem.W.Frag) : ∃ w, callN (fs ns) fu lv lawI [scrD] (tabW (tbK K lam)) = .ok (.bool true) w :=
  ev_k32 (cf := cN ns 39) (ib := 0) (ih := 27) (ich := 39) (icm := 2) (il := 8) (im := 3) (ip := 28) (ir := 7) (it := 5) (itx := 29) (ifc := 32) (ifm := 38) (ifr := 36) (ipc := 26) (ipm := 24) (ipr := 22) fu
    { beg := (l_f_law_begun ns hl 38), hnd := (l_f_law_by_hand ns hl 32), chg := (l_f_law_changed ns hl 37), cmb := (l_f_law_combination ns hl 37), lin := (l_f_law_lines ns hl 38), mod := (l_f_law_model ns hl 36), prs := (l_f_law_pairs ns hl 38), res := (l_f_law_results ns hl 36), tst := (l_f_law_tests ns hl 37), txt := (l_f_law_text ns hl 37), fc := (l_f_format_combination ns hl 33), fm := (l_f_format_model ns hl 33), fr := (l_f_format_results ns hl 33), pc := (l_f_parse_combination ns hl 33), pm := (l_f_parse_model ns hl 34), pr := (l_f_parse_results ns hl 33) } _
end K32
open PySem PySem.W PySem.Calls PyProof.Rows
set_option maxHeartbeats 0 in
theorem PySem.Challenge.cw_faultcover_k32_texts_holds : PySem.Challenge.rw_faultcover_k32_texts.Holds := by
  w_on; o_law
  refine HandSHeadRun.head_any (r := OpenLaw.row PySem.Challenge.rw_faultcover_k32_texts) (q := view (OpenLaw.row PySem.Challenge.rw_faultcover_k32_texts).prog [67]) (H := K32.hk) (ob := K32.ob) (M := 12000) (loose := K32.loose) (d := HandSHeadRun.topDef (OpenLaw.row PySem.Challenge.rw_faultcover_k32_texts).prog 67) (kwd := []) K32.ob_eq
    (by kernel_rfl) (fun s => by kernel_rfl) K32.run (by kernel_rfl) (by kernel_rfl) (by kernel_rfl) (by rfl) (by first | assumption | decide +kernel) (by decide +kernel) ⟨rfl, rfl, rfl, rfl, rfl, by decide +kernel⟩ ?hw ?hc
  case hw => w_witness2
  case hc =>
    refine Ev.walk_ofX (l := PySem.Challenge.rw_faultcover_k32_texts) (n := 63) (k := 5 * K32.lv) (x := "script") (CX := fun w => L2.CX (PySem.Challenge.rw_faultcover_k32_texts).prog w) rfl (by decide) (by kernel_rfl) ⟨rfl, by decide, by decide⟩ ?F (fun w _ _ _ _ z => Ev.cx_no z)
    intro w mg fa h Y G hmg0
    obtain ⟨K, KX, c⟩ := Y
    have hmg : mg ("law" : PySem.Str) = some (.ref fa) := by
      have e : (HandSHeadRun.topDef (OpenLaw.row PySem.Challenge.rw_faultcover_k32_texts).prog 67).name = ("law" : PySem.Str) := by kernel_rfl
      rw [← e]
      exact hmg0
    have more := c.more
    simp only [Ev.exK, Bool.and_eq_true, decide_eq_true_eq, Bool.not_true, Bool.false_or] at more
    obtain ⟨nd, RB⟩ := more
    obtain ⟨fd, hb, ga, cl, hF⟩ := K32.law_fn (w := w) KX G hmg c.t.d RB K32.fu K32.lv
    refine ⟨K, fd, (Ev.tfL K32.lam).map (He.cT K), fun ns a => Ev.spF ⟨ga, K, a, ns, Ev.tbK K K32.lam, w, He.ga K K32.tb.cn⟩ cl (Ev.callN (K32.fs ns) K32.fu K32.lv K32.lawI) 1, KX, fun p hp => ?_, fun p hp => ?_, fun p hp => ?_, hb, fun H a ns hl hT hS => ?_, fun ns a base _ _ LT => hF ns a base LT⟩
    · obtain ⟨x, hx, rfl⟩ := List.mem_map.mp hp
      exact c.empty x hx
    · obtain ⟨x, hx, rfl⟩ := List.mem_map.mp hp
      exact c.out x hx
    · obtain ⟨x, hx, rfl⟩ := List.mem_map.mp hp
      exact codeHd_of_K KX (c.hd x hx)
    obtain ⟨w', e⟩ := K32.holds ns hl K
    refine ⟨rfl, Ev.tabM (Ev.tbK K K32.lam), _, Ev.tabW (Ev.tbK K K32.lam), [Ev.scrD], Ev.start_wf (fa := ga) hS (fun p hp => ?_) nd, .cons .scr .nil, ?_⟩
    · obtain ⟨x, hx, rfl⟩ := List.mem_map.mp hp
      exact hT (He.cT K (x, none)) (List.mem_map.mpr ⟨(x, none), List.mem_map.mpr ⟨x, hx, rfl⟩, rfl⟩)
    rw [e]
    intro m' F' H' v _ _ r
    cases r
    rfl


