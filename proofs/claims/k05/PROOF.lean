import PyProof.Rows.All
import Wide.All
import OpenK.AllK
import Wide.FinOn
import KE.SortData
import HandS.ForMost
import HandS.ForExc
import HandS.Lambda
import KE.KeyNested
import KE.KDictKeyed
import HandS.TupAny
import HandS.TupMul
import HandS.IsInst
import HandS.Deep
import HandS.Zip
import HandS.TupLen
import KE.KDictSum
import PyProof.TupleOfSeq
import HandS.Conv
import HandS.Keys
import KE.KSortAsk
import KE.DataMinMax
import KE.GoesMore
import KE.GoesEnum
import HandS.WordsExc
import HandS.Defaults
import KE.KStateDown
import HandS.Head0
import HandS.Head1
import HandS.Head2
import HandS.HeadEnd
import HandS.HeadHook1
import HandS.HeadHook2
import HandS.DictTup
import KE.KDictExact
import HandS.ListItems
import HandS.TupSets
import HandS.Style
import HandS.ExcIs
import HandS.Walk
import PyProof.DictUpdate
import HandS.EndTab
import HandS.HeadWalk
import HandS.HeadHook4
import PySem.Challenge.RW_faultcover_k05_blocking
set_option Elab.async false
set_option linter.all false
/-! EvLang: a small language and its evaluator over plain data. -/
namespace Ev
open PySem

abbrev D := PyData

/-- a slot: frozen data, an owned list, an owned dict -/
inductive SV where
  | i (d : D)
  | l (xs : List D)
  | m (kvs : List (D × D))

/-- a mutable object -/
inductive MO where
  | non
  | tab (q : Str)
  | town (count : Int) (rests : List (Int × Int))
  | inst (c : Nat) (fs : List (Str × SV))

abbrev W := List MO
abbrev Sl := List (Option SV)

inductive R (α : Type) where
  | ok (a : α) (w : W)
  | exc (c : Nat) (w : W)
  | bad

abbrev M (α : Type) := W → R α
def ret {α : Type} (a : α) : M α := fun w => .ok a w
def bad {α : Type} : M α := fun _ => .bad
def bnd {α β : Type} (x : M α) (f : α → M β) : M β := fun w => match x w with
  | .ok a w' => f a w'
  | .exc c w' => .exc c w'
  | .bad => .bad
def lift {α : Type} : Option α → M α
  | some a => ret a
  | none => bad
/-- no exception leaves -/
def nox {α : Type} (x : M α) : M α := fun w => match x w with
  | .ok a w' => .ok a w'
  | .exc _ _ => .bad
  | .bad => .bad
def thr {α : Type} (c : Nat) : M α := fun w => .exc c w
/-- a call that may raise, told: xn names the error classes -/
def resM (xn : List Str) (x : M PyData) : M PyData := fun w => match x w with
  | .ok d w' => .ok (.tuple [.str "returns", d]) w'
  | .exc k w' => (match xn[k]? with
    | some y => .ok (.tuple [.str y]) w'
    | none => .bad)
  | .bad => .bad

/-- a function, an object, as data -/
def fnD (n : Nat) : D := .dict [(.none, .int n)]
def obD (n : Nat) : D := .dict [(.bool true, .int n)]
/-- the law's script -/
def scrD : D := .dict [(.bool false, .none)]

/-- the answers of _law_result, by the error's class -/
def resL : List Str := ["model", "test", "combination", "suite", "strength", "text", "hypothesis", "number", "results", "index", "large", "many", "unexplained", "same", "contradiction", "use", "undo"]
/-- the largest length of a list -/
def LIM : Nat := 16777216

inductive Op2 where
  | add | sub | mul | fdiv | mod | lt | le | gt | ge | eq | ne | isin | notin | isN | notN
  deriving DecidableEq
inductive Bi where
  | len | all | any | sorted | tuple | list | sum | max | min | abs | sset | sitems | dict | rev | evens
  deriving DecidableEq
inductive Ty where
  | int | bool | tuple | str
  deriving DecidableEq

mutual
inductive Tg where
  | name (i : Nat)
  | tup (ts : Tgs)
inductive Tgs where
  | nil
  | cons (t : Tg) (ts : Tgs)
end

mutual
inductive E where
  | var (i : Nat)
  | pk (i : Nat)
  | none | tr | fa
  | int (n : Int)
  | str (s : Str)
  | gint (x : Str) (n : Int)
  | fn (f : Nat)
  | tup (es : Es)
  | lst (es : Es)
  | dnew
  | op (o : Op2) (a b : E)
  | neg (a : E)
  | and (a b : E)
  | or (a b : E)
  | not (a : E)
  | ite (t : T) (a b : E)
  | chain (o p : Op2) (a b c : E)
  | call (f : Nat) (es : Es)
  | bi (b : Bi) (a : E)
  | min2 (a b : E)
  | max2 (a b : E)
  | isi (t : Ty) (a : E)
  | ix (a i : E)
  | sl (a : E) (lo hi : Eo)
  | items (a : E)
  | get2 (a k x : E)
  | index (a b : E)
  | comp (elt : E) (tg : Tg) (it : I) (ifs : Ts) (own : List Nat)
  | lam (xn : List Str) (a : E)
inductive Es where
  | nil
  | cons (e : E) (es : Es)
inductive Eo where
  | no
  | so (e : E)
inductive T where
  | val (e : E)
  | cmp (o : Op2) (a b : E)
  | chain (o p : Op2) (a b c : E)
  | and (a b : T)
  | or (a b : T)
  | not (a : T)
inductive Ts where
  | yes
  | one (t : T)
inductive I where
  | seq (e : E)
  | range1 (a : E)
  | range2 (a b : E)
  | zip (a b : E)
  | enum (a : E)
  | down (a : E)
end

mutual
inductive S where
  | expr (e : E)
  | set (tg : Tg) (e : E)
  | setM (i : Nat) (e : E)
  | par (i j : Nat) (m n : Bool) (a b : E)
  | app (i : Nat) (e : E)
  | ext (i : Nat) (e : E)
  | dput (i : Nat) (k v : E)
  | dpop (i : Nat) (k : E)
  | dupd (i : Nat) (e : E)
  | ife (t : T) (a b : B)
  | for_ (tg : Tg) (it : I) (b : B)
  | while_ (t : T) (b : B)
  | ret (e : E)
  | raise (c : Nat)
  | pass
  | cont
inductive B where
  | nil
  | cons (s : S) (b : B)
  | frz (i : Nat) (b : B)
end

inductive Fl where
  | nx (s : Sl)
  | rt (d : D)
  | ct (s : Sl)

/-! ### data -/
def getI (s : Sl) (i : Nat) : Option D := match s[i]? with
  | some (some (.i d)) => some d
  | _ => none
def getP (s : Sl) (i : Nat) : Option D := match s[i]? with
  | some (some (.i d)) => some d
  | some (some (.l xs)) => some (.list xs)
  | some (some (.m kvs)) => some (.dict kvs)
  | _ => none

def getL (s : Sl) (i : Nat) : Option (List D) := match s[i]? with
  | some (some (.l xs)) => some xs
  | _ => none
def getM (s : Sl) (i : Nat) : Option (List (D × D)) := match s[i]? with
  | some (some (.m kvs)) => some kvs
  | _ => none
def lstD : D → Option (List D)
  | .list xs => some xs
  | _ => none

def ok2 (d : D) : Bool := SeqAt.shaped d

def eqD (x y : D) : Option Bool := if ok2 x && ok2 y then some (PyData.eqv x y) else none

/-- x < y for alike data -/
def notNone : D → Bool
  | .none => false
  | _ => true
def ltD (x y : D) : Option Bool := if ok2 x && ok2 y && W.alike x y && notNone x then some (W.dataLt x y) else none

def insD (x : D) : List D → List D
  | [] => [x]
  | y :: ys => if W.dataLt y x then y :: insD x ys else x :: y :: ys
def sortD : List D → List D
  | [] => []
  | x :: xs => insD x (sortD xs)
def ntup : D → Bool
  | .tuple (_ :: _) => true
  | _ => false
def nonT : D → Bool
  | .none => false
  | .tuple _ => false
  | _ => true
def sortOk (xs : List D) : Bool := xs.all (fun x => xs.all fun y => W.alike x y) && (xs.all ntup || xs.all nonT) && xs.all ok2

def boolsD : List D → Option (List Bool)
  | [] => some []
  | .bool b :: r => (boolsD r).map (b :: ·)
  | _ => none
def intsD : List D → Option (List Int)
  | [] => some []
  | .int n :: r => (intsD r).map (n :: ·)
  | _ => none

def pairD (p : D × D) : D := .tuple [p.1, p.2]

/-- a key of a dict -/
def keyOk : D → Bool
  | .int _ => true
  | .str _ => true
  | _ => false

def isTup : D → Bool
  | .tuple _ => true
  | _ => false
mutual
/-- what a key may hold -/
def hkOk : D → Bool
  | .none => true
  | .bool _ => true
  | .int _ => true
  | .str _ => true
  | .tuple xs => hkAll xs
  | _ => false
def hkAll : List D → Bool
  | [] => true
  | x :: xs => hkOk x && hkAll xs
end
/-- a tuple as a key of a dict -/
def tkOk (d : D) : Bool := isTup d && hkOk d && decide (d.depth ≤ 8)
/-- a dict's keys are ints and texts, or tuples -/
def kdOk (kvs : List (D × D)) : Bool := kvs.all (fun p => keyOk p.1) || kvs.all (fun p => tkOk p.1)
/-- such a key for such a dict -/
def kyOk (x : D) (kvs : List (D × D)) : Bool := (keyOk x && kvs.all (fun p => keyOk p.1)) || (tkOk x && kvs.all (fun p => tkOk p.1))

/-- the items of a sequence, the keys of a dict -/
def seqD : D → Option (List D)
  | .list xs => some xs
  | .tuple xs => some xs
  | .dict kvs => if kdOk kvs then some (kvs.map (·.1)) else none
  | _ => none

def lookD : List (D × D) → D → Option D
  | [], _ => none
  | (k, v) :: r, x => if PyData.eqv k x then some v else lookD r x
def putD (x v : D) (kvs : List (D × D)) : List (D × D) :=
  if kvs.any (fun p => PyData.eqv p.1 x) then kvs.map (fun p => if PyData.eqv p.1 x then (p.1, v) else p) else kvs ++ [(x, v)]

def dropD (k : D) (ds : List (D × D)) : List (D × D) := ds.filter fun p => !PyData.eqv p.1 k
/-- the elements of a set, without repetition (their order is not told: only sorted may look at it) -/
def dedD : List D → List D
  | [] => []
  | x :: xs => if xs.any (PyData.eqv x) then dedD xs else x :: dedD xs

def maxI : Int → List Int → Int
  | m, [] => m
  | m, x :: xs => maxI (if m < x then x else m) xs
def minI : Int → List Int → Int
  | m, [] => m
  | m, x :: xs => minI (if x < m then x else m) xs

def mulOk (i j : Int) : Bool := (decide (-(2 ^ 64) < i) && decide (i < 2 ^ 64)) || (decide (-(2 ^ 64) < j) && decide (j < 2 ^ 64))

def addD : D → D → Option D
  | .int i, .int j => some (.int (i + j))
  | .tuple xs, .tuple ys => if xs.length + ys.length ≤ LIM then some (.tuple (xs ++ ys)) else none
  | .list xs, .list ys => if xs.length + ys.length ≤ LIM then some (.list (xs ++ ys)) else none
  | _, _ => none
def subD : D → D → Option D
  | .int i, .int j => some (.int (i - j))
  | _, _ => none
def mulD : D → D → Option D
  | .int i, .int j => if mulOk i j then some (.int (i * j)) else none
  | .tuple xs, .int k => if xs ≠ [] ∧ 2 ≤ k ∧ k ≤ 1000 ∧ xs.length ≤ 1000 then some (.tuple (List.replicate k.toNat xs).flatten) else none
  | .list xs, .int k => if 0 ≤ k ∧ k < 2 ^ 62 ∧ xs.length * k.toNat ≤ LIM then some (.list (List.replicate k.toNat xs).flatten) else none
  | _, _ => none
def fdivD : D → D → Option D
  | .int i, .int j => if 0 < j ∧ j < 1073741824 then some (.int (i / j)) else none
  | _, _ => none
def modD : D → D → Option D
  | .int i, .int j => if 0 < j then some (.int (i % j)) else none
  | _, _ => none
def leD : D → D → Option D
  | .int i, .int j => some (.bool (decide (i ≤ j)))
  | _, _ => none
def gtD : D → D → Option D
  | .int i, .int j => some (.bool (decide (j < i)))
  | _, _ => none
def geD : D → D → Option D
  | .int i, .int j => some (.bool (decide (j ≤ i)))
  | _, _ => none
def inD (x : D) : D → Option Bool
  | .list ys => if ok2 x && ok2 (.list ys) then some (ys.any fun z => PyData.eqv z x) else none
  | .tuple ys => if ok2 x && ok2 (.tuple ys) then some (ys.any fun z => PyData.eqv z x) else none
  | .dict kvs => if kyOk x kvs then some (lookD kvs x).isSome else none
  | _ => none
def isND : D → D → Option Bool
  | .none, .none => some true
  | _, .none => some false
  | _, _ => none
def opD : Op2 → D → D → Option D
  | .add, x, y => addD x y
  | .sub, x, y => subD x y
  | .mul, x, y => mulD x y
  | .fdiv, x, y => fdivD x y
  | .mod, x, y => modD x y
  | .lt, x, y => (ltD x y).map .bool
  | .gt, x, y => gtD x y
  | .le, x, y => leD x y
  | .ge, x, y => geD x y
  | .eq, x, y => (eqD x y).map .bool
  | .ne, x, y => (eqD x y).map fun b => .bool (!b)
  | .isin, x, y => (inD x y).map .bool
  | .notin, x, y => (inD x y).map fun b => .bool (!b)
  | .isN, x, y => (isND x y).map .bool
  | .notN, x, y => (isND x y).map fun b => .bool (!b)

def lenD : D → Option D
  | .list xs => some (.int xs.length)
  | .tuple xs => some (.int xs.length)
  | .dict kvs => if kdOk kvs then some (.int kvs.length) else none
  | _ => none
def allD : D → Option D
  | .list xs => (boolsD xs).map fun bs => .bool (bs.all id)
  | _ => none
def anyD : D → Option D
  | .list xs => (boolsD xs).map fun bs => .bool (bs.any id)
  | _ => none
def sortedD : D → Option D
  | .list xs => if sortOk xs then some (.list (sortD xs)) else none
  | .tuple xs => if sortOk xs then some (.list (sortD xs)) else none
  | .dict kvs => if kvs.all (fun p => tkOk p.1) && sortOk (kvs.map (·.1)) then some (.list (sortD (kvs.map (·.1)))) else none
  | _ => none
def tupleD : D → Option D
  | .list xs => some (.tuple xs)
  | .tuple xs => some (.tuple xs)
  | _ => none
def listD : D → Option D
  | .list xs => some (.list xs)
  | .tuple xs => some (.list xs)
  | .dict kvs => if kvs.all (fun p => tkOk p.1) then some (.list (kvs.map (·.1))) else none
  | _ => none
def sumD : D → Option D
  | .list xs => (intsD xs).map fun ns => .int ns.sum
  | .tuple xs => (intsD xs).map fun ns => .int ns.sum
  | _ => none
def maxD : D → Option D
  | .list (.int x :: xs) => (intsD xs).map fun ns => .int (maxI x ns)
  | .tuple (.int x :: xs) => (intsD xs).map fun ns => .int (maxI x ns)
  | _ => none
/-- the first of the least -/
def minT (x : D) (xs : List D) : D := xs.foldl (fun a y => if W.dataLt y a then y else a) x
def mnOk (xs : List D) : Bool := xs.all (fun x => xs.all fun y => W.alike x y) && xs.all notNone && xs.all ok2
def minD : D → Option D
  | .list (.int x :: xs) => (intsD xs).map fun ns => .int (minI x ns)
  | .list (.tuple x :: xs) => if mnOk (.tuple x :: xs) then some (minT (.tuple x) xs) else none
  | _ => none
def absD : D → Option D
  | .int i => some (.int (if i < 0 then -i else i))
  | _ => none
mutual
/-- ints, and tuples of such -/
def nkOk : D → Bool
  | .int _ => true
  | .tuple xs => nkAll xs
  | _ => false
def nkAll : List D → Bool
  | [] => true
  | x :: xs => nkOk x && nkAll xs
end
def isInt : D → Bool
  | .int _ => true
  | _ => false
/-- sorted(set(xs)) -/
def ssetD : D → Option D
  | .list xs => if xs.all (fun x => isTup x && nkOk x && decide (x.depth ≤ 8)) && decide (xs.length < 64) && sortOk xs then some (.list (sortD (dedD xs))) else none
  | _ => none
/-- sorted(d.items()), ints to ints -/
def sitemsD : D → Option D
  | .dict kvs => if kvs.all (fun p => isInt p.1 && isInt p.2) && decide (kvs.length ≤ LIM) then some (.list (sortD (kvs.map pairD))) else none
  | _ => none
/-- pairs of a key and a value -/
def prsD : List D → Option (List (D × D))
  | [] => some []
  | .tuple [k, v] :: r => (prsD r).map ((k, v) :: ·)
  | _ => none
def putAll (ds : List (D × D)) : List (D × D) → List (D × D)
  | [] => ds
  | p :: ps => putAll (putD p.1 p.2 ds) ps
def dictD : D → Option D
  | .list xs => (prsD xs).bind fun ps => if kdOk ps && decide (ps.length ≤ 65536) then some (.dict (putAll [] ps)) else none
  | .tuple xs => (prsD xs).bind fun ps => if kdOk ps && decide (ps.length ≤ 65536) then some (.dict (putAll [] ps)) else none
  | .dict kvs => if kdOk kvs then some (.dict kvs) else none
  | _ => none
def revD : D → Option D
  | .tuple xs => some (.tuple xs.reverse)
  | .list xs => some (.list xs.reverse)
  | _ => none
def evnL : List D → List D
  | [] => []
  | [x] => [x]
  | x :: _ :: r => x :: evnL r
def evnD : D → Option D
  | .tuple xs => some (.tuple (evnL xs))
  | .list xs => some (.list (evnL xs))
  | _ => none
/-- x.index(y) -/
def idxL (y : D) : Nat → List D → Option Nat
  | _, [] => none
  | n, x :: r => if PyData.eqv x y then some n else idxL y (n + 1) r
def idxD (xs : List D) (y : D) : Option D := if ok2 (.list xs) && ok2 y then (idxL y 0 xs).map fun (n : Nat) => .int n else none
/-- a dict with keys that are read -/
def dctD : D → Option (List (D × D))
  | .dict kvs => if kdOk kvs then some kvs else none
  | _ => none
def biD : Bi → D → Option D
  | .len, x => lenD x
  | .all, x => allD x
  | .any, x => anyD x
  | .sorted, x => sortedD x
  | .tuple, x => tupleD x
  | .list, x => listD x
  | .sum, x => sumD x
  | .max, x => maxD x
  | .min, x => minD x
  | .abs, x => absD x
  | .sset, x => ssetD x
  | .sitems, x => sitemsD x
  | .dict, x => dictD x
  | .rev, x => revD x
  | .evens, x => evnD x

def isiD : Ty → D → Option Bool
  | .int, .int _ => some true
  | .int, .bool _ => some true
  | .int, .dict _ => none
  | .int, _ => some false
  | .bool, .bool _ => some true
  | .bool, .dict _ => none
  | .bool, _ => some false
  | .tuple, .tuple _ => some true
  | .tuple, .dict _ => none
  | .tuple, _ => some false
  | .str, .str _ => some true
  | .str, .dict _ => none
  | .str, _ => some false

def ixI (n : Nat) (i : Int) : Option Nat := if 0 ≤ i then (if i < n then some i.toNat else none) else if -(n : Int) ≤ i then some (i + n).toNat else none

def ixD : D → D → Option D
  | .list xs, .int i => (ixI xs.length i).bind fun j => xs[j]?
  | .tuple xs, .int i => (ixI xs.length i).bind fun j => xs[j]?
  | .dict kvs, k => if kyOk k kvs then lookD kvs k else none
  | _, _ => none

def slI (n d : Nat) : Option Int → Nat
  | none => d
  | some v => if v < 0 then (v + n).toNat else min v.toNat n
def cutD (xs : List D) (lo hi : Option Int) : List D := (xs.drop (slI xs.length 0 lo)).take (slI xs.length xs.length hi - slI xs.length 0 lo)
def slD : D → Option Int → Option Int → Option D
  | .list xs, lo, hi => some (.list (cutD xs lo hi))
  | .tuple xs, lo, hi => some (.tuple (cutD xs lo hi))
  | _, _, _ => none

def truD : D → Option Bool
  | .none => some false
  | .bool b => some b
  | .int i => some (i != 0)
  | .list xs => some (!xs.isEmpty)
  | .tuple xs => some (!xs.isEmpty)
  | .dict kvs => if kdOk kvs then some (!kvs.isEmpty) else none
  | .str _ => none

def intD : D → Option Int
  | .int i => some i
  | _ => none
def boolD : D → Option Bool
  | .bool b => some b
  | _ => none

def rangeD (lo hi : Int) : Option (List D) :=
  if -(2 ^ 62) ≤ lo ∧ lo < 2 ^ 62 ∧ -(2 ^ 62) ≤ hi ∧ hi < 2 ^ 62 ∧ (hi - lo).toNat ≤ LIM then some ((List.range (hi - lo).toNat).map fun (k : Nat) => .int (lo + k)) else none

/-- i, i - 1, .. 0 -/
def downD (i : Int) : Option (List D) :=
  if -1 ≤ i ∧ i < 2 ^ 62 ∧ (i + 1).toNat ≤ LIM then some ((List.range (i + 1).toNat).map fun (k : Nat) => .int (i - k)) else none
/-- two sequences of one kind, walked together -/
def zipD : D → D → Option (List D)
  | .list xs, .list ys => some ((xs.zip ys).map pairD)
  | .tuple xs, .tuple ys => some ((xs.zip ys).map pairD)
  | _, _ => none
def enumL : Nat → List D → List D
  | _, [] => []
  | n, x :: xs => .tuple [.int n, x] :: enumL (n + 1) xs
def enumD : D → Option (List D)
  | .list xs => some (enumL 0 xs)
  | .tuple xs => some (enumL 0 xs)
  | _ => none

mutual
def bindT : Tg → D → Sl → Option Sl
  | .name i, d, s => if i < s.length then some (s.set i (some (.i d))) else none
  | .tup ts, .tuple ds, s => bindTs ts ds s
  | _, _, _ => none
def bindTs : Tgs → List D → Sl → Option Sl
  | .nil, [], s => some s
  | .cons t ts, d :: ds, s => (bindT t d s).bind fun s' => bindTs ts ds s'
  | _, _, _ => none
end

def wipeA (s : Sl) : List Nat → Sl
  | [] => s
  | v :: vs => (wipeA s vs).set v none

def compL (f : D → M (Option D)) : List D → M (List D)
  | [] => ret []
  | d :: ds => bnd (f d) fun o => bnd (compL f ds) fun r => match o with
    | some x => ret (x :: r)
    | none => ret r

def forL (f : D → Sl → M Fl) : List D → Sl → M Fl
  | [], s => ret (.nx s)
  | d :: ds, s => bnd (f d s) fun r => match r with
    | .nx s' => forL f ds s'
    | .ct s' => forL f ds s'
    | .rt v => ret (.rt v)

def whileL (t : Sl → M Bool) (f : Sl → M Fl) : Nat → Sl → M Fl
  | 0, _ => bad
  | n + 1, s => bnd (t s) fun b => if b then (bnd (f s) fun r => match r with
    | .nx s' => whileL t f n s'
    | .ct s' => whileL t f n s'
    | .rt v => ret (.rt v)) else ret (.nx s)

abbrev CF := Nat → List D → M D

mutual
def evE (cf : CF) : E → Sl → M D
  | .var i, s => lift (getI s i)
  | .pk i, s => lift (getP s i)
  | .none, _ => ret .none
  | .tr, _ => ret (.bool true)
  | .fa, _ => ret (.bool false)
  | .int n, _ => ret (.int n)
  | .str x, _ => ret (.str x)
  | .gint _ n, _ => ret (.int n)
  | .fn f, _ => ret (fnD f)
  | .tup es, s => bnd (evEs cf es s) fun ds => if ds.length ≤ LIM then ret (.tuple ds) else bad
  | .lst es, s => bnd (evEs cf es s) fun ds => if ds.length ≤ LIM then ret (.list ds) else bad
  | .dnew, _ => ret (.dict [])
  | .op o a b, s => bnd (evE cf a s) fun x => bnd (evE cf b s) fun y => lift (opD o x y)
  | .neg a, s => bnd (evE cf a s) fun x => bnd (lift (intD x)) fun i => ret (.int (-i))
  | .and a b, s => bnd (evE cf a s) fun x => bnd (lift (boolD x)) fun c => if c then evE cf b s else ret (.bool false)
  | .or a b, s => bnd (evE cf a s) fun x => bnd (lift (boolD x)) fun c => if c then ret (.bool true) else evE cf b s
  | .not a, s => bnd (evE cf a s) fun x => bnd (lift (boolD x)) fun c => ret (.bool (!c))
  | .ite t a b, s => bnd (evT cf t s) fun c => if c then evE cf a s else evE cf b s
  | .chain o p a b c, s => bnd (evE cf a s) fun x => bnd (evE cf b s) fun y => bnd (lift ((opD o x y).bind boolD)) fun k => if k then (bnd (evE cf c s) fun z => lift (opD p y z)) else ret (.bool false)
  | .call f es, s => bnd (evEs cf es s) fun ds => cf f ds
  | .bi b a, s => bnd (evE cf a s) fun x => lift (biD b x)
  | .min2 a b, s => bnd (evE cf a s) fun x => bnd (evE cf b s) fun y => bnd (lift (intD x)) fun i => bnd (lift (intD y)) fun j => ret (.int (if j < i then j else i))
  | .max2 a b, s => bnd (evE cf a s) fun x => bnd (evE cf b s) fun y => bnd (lift (intD x)) fun i => bnd (lift (intD y)) fun j => ret (.int (if j > i then j else i))
  | .isi t a, s => bnd (evE cf a s) fun x => bnd (lift (isiD t x)) fun b => ret (.bool b)
  | .ix a i, s => bnd (evE cf a s) fun x => bnd (evE cf i s) fun y => lift (ixD x y)
  | .sl a lo hi, s => bnd (evE cf a s) fun x => bnd (evEo cf lo s) fun l => bnd (evEo cf hi s) fun h => lift (slD x l h)
  | .items a, s => bnd (evE cf a s) fun x => match x with
    | .dict kvs => if kvs.all (fun p => keyOk p.1) then ret (.list (kvs.map pairD)) else bad
    | _ => bad
  | .get2 a k d, s => bnd (evE cf a s) fun x => bnd (lift (dctD x)) fun kvs => bnd (evE cf k s) fun y => bnd (evE cf d s) fun z => if kyOk y kvs then ret ((lookD kvs y).getD z) else bad
  | .index a b, s => bnd (evE cf a s) fun x => bnd (lift (lstD x)) fun xs => bnd (evE cf b s) fun y => lift (idxD xs y)
  | .comp elt tg it ifs own, s => bnd (evI cf it s) fun ds => bnd (nox (compL (fun d => bnd (lift (bindT tg d (wipeA s own))) fun s' => bnd (evTs cf ifs s') fun b => if b then (bnd (evE cf elt s') fun x => ret (some x)) else ret .none) ds)) fun r => ret (.list r)
  | .lam xn a, s => resM xn (evE cf a s)
def evEs (cf : CF) : Es → Sl → M (List D)
  | .nil, _ => ret []
  | .cons e es, s => bnd (evE cf e s) fun x => bnd (evEs cf es s) fun r => ret (x :: r)
def evEo (cf : CF) : Eo → Sl → M (Option Int)
  | .no, _ => ret .none
  | .so e, s => bnd (evE cf e s) fun x => bnd (lift (intD x)) fun i => ret (some i)
def evT (cf : CF) : T → Sl → M Bool
  | .val e, s => bnd (evE cf e s) fun x => lift (truD x)
  | .cmp o a b, s => bnd (evE cf a s) fun x => bnd (evE cf b s) fun y => lift ((opD o x y).bind boolD)
  | .chain o p a b c, s => bnd (evE cf a s) fun x => bnd (evE cf b s) fun y => bnd (lift ((opD o x y).bind boolD)) fun k => if k then (bnd (evE cf c s) fun z => lift ((opD p y z).bind boolD)) else ret false
  | .and a b, s => bnd (evT cf a s) fun c => if c then evT cf b s else ret false
  | .or a b, s => bnd (evT cf a s) fun c => if c then ret true else evT cf b s
  | .not a, s => bnd (evT cf a s) fun c => ret (!c)
def evTs (cf : CF) : Ts → Sl → M Bool
  | .yes, _ => ret true
  | .one t, s => evT cf t s
def evI (cf : CF) : I → Sl → M (List D)
  | .seq e, s => bnd (evE cf e s) fun x => lift (seqD x)
  | .range1 a, s => bnd (evE cf a s) fun x => bnd (lift (intD x)) fun i => lift (rangeD 0 i)
  | .range2 a b, s => bnd (evE cf a s) fun x => bnd (evE cf b s) fun y => bnd (lift (intD x)) fun i => bnd (lift (intD y)) fun j => lift (rangeD i j)
  | .zip a b, s => bnd (evE cf a s) fun x => bnd (evE cf b s) fun y => lift (zipD x y)
  | .enum a, s => bnd (evE cf a s) fun x => lift (enumD x)
  | .down a, s => bnd (evE cf a s) fun x => bnd (lift (intD x)) fun i => lift (downD i)
end

/-- an owned slot is frozen -/
def frzS (s : Sl) (i : Nat) : Option Sl := match s[i]? with
  | some (some (.l xs)) => some (s.set i (some (.i (.list xs))))
  | some (some (.m kvs)) => some (s.set i (some (.i (.dict kvs))))
  | _ => some s
/-- an expression that makes a new object -/
def fresh : E → Bool
  | .lst _ => true
  | .dnew => true
  | .comp .. => true
  | _ => false
def mutS : D → Option SV
  | .list xs => some (.l xs)
  | .dict kvs => some (.m kvs)
  | _ => none

/-- what a slot gets: a new object of its own, or frozen data -/
def slotV (m : Bool) (d : D) : Option SV := if m then mutS d else some (.i d)
mutual
def evS (cf : CF) (fu : Nat) : S → Sl → M Fl
  | .expr e, s => bnd (evE cf e s) fun _ => ret (.nx s)
  | .set tg e, s => bnd (evE cf e s) fun x => bnd (lift (bindT tg x s)) fun s' => ret (.nx s')
  | .setM i e, s => bnd (evE cf e s) fun x => bnd (lift (mutS x)) fun v => if i < s.length then ret (.nx (s.set i (some v))) else bad
  | .par i j m n a b, s => bnd (evE cf a s) fun x => bnd (evE cf b s) fun y => bnd (lift (slotV m x)) fun u => bnd (lift (slotV n y)) fun v => if i < s.length ∧ j < s.length then ret (.nx ((s.set i (some u)).set j (some v))) else bad
  | .app i e, s => bnd (lift (getL s i)) fun xs => bnd (evE cf e s) fun x => if xs.length < LIM then ret (.nx (s.set i (some (.l (xs ++ [x]))))) else bad
  | .ext i e, s => bnd (lift (getL s i)) fun xs => bnd (evE cf e s) fun x => bnd (lift (lstD x)) fun ys => if xs.length + ys.length ≤ LIM then ret (.nx (s.set i (some (.l (xs ++ ys))))) else bad
  | .dput i k v, s => bnd (evE cf v s) fun x => bnd (lift (getM s i)) fun kvs => bnd (evE cf k s) fun y => if kyOk y kvs && decide (kvs.length < LIM) then ret (.nx (s.set i (some (.m (putD y x kvs))))) else bad
  | .dpop i k, s => bnd (lift (getM s i)) fun kvs => bnd (evE cf k s) fun y => if tkOk y && kvs.all (fun p => tkOk p.1) then ret (.nx (s.set i (some (.m (dropD y kvs))))) else bad
  | .dupd i e, s => bnd (lift (getM s i)) fun kvs => bnd (evE cf e s) fun x => match x with
    | .dict ds => if kvs.all (fun p => tkOk p.1) && ds.all (fun p => tkOk p.1) && decide (kvs.length + ds.length ≤ LIM) then ret (.nx (s.set i (some (.m (putAll kvs ds))))) else bad
    | _ => bad
  | .ife t a b, s => bnd (evT cf t s) fun c => if c then evB cf fu a s else evB cf fu b s
  | .for_ tg it b, s => bnd (evI cf it s) fun ds => forL (fun d s => bnd (lift (bindT tg d s)) fun s' => evB cf fu b s') ds s
  | .while_ t b, s => whileL (evT cf t) (evB cf fu b) fu s
  | .ret e, s => bnd (evE cf e s) fun x => ret (.rt x)
  | .raise c, _ => thr c
  | .pass, s => ret (.nx s)
  | .cont, s => ret (.ct s)
def evB (cf : CF) (fu : Nat) : B → Sl → M Fl
  | .nil, s => ret (.nx s)
  | .cons st b, s => bnd (evS cf fu st s) fun r => match r with
    | .nx s' => evB cf fu b s'
    | .ct s' => ret (.ct s')
    | .rt v => ret (.rt v)
  | .frz i b, s => bnd (lift (frzS s i)) fun s' => evB cf fu b s'
end

/-- a def: its parameters, all its slots, its body -/
structure Fn where
  np : Nat
  ns : Nat
  body : B
def startA (f : Fn) (ds : List D) : Sl := ds.map (fun d => some (.i d)) ++ List.replicate (f.ns - ds.length) none
def runF (cf : CF) (fu : Nat) (f : Fn) (ds : List D) : M D := if ds.length = f.np then bnd (evB cf fu f.body (startA f ds)) (fun r => match r with
  | .rt v => ret v
  | .nx _ => ret .none
  | .ct _ => bad) else bad

/-- a primitive, or a def by its code -/
inductive Def where
  | code (f : Fn)
  | prim (p : List D → M D)
def callD (cf : CF) (fu : Nat) : Def → List D → M D
  | .code f, ds => runF cf fu f ds
  | .prim p, ds => p ds
def callN (fs : List Def) (fu : Nat) : Nat → CF
  | 0 => fun _ _ => bad
  | n + 1 => fun f ds => match fs[f]? with
    | some d => callD (callN fs fu n) fu d ds
    | none => bad
end Ev

set_option Elab.async false
set_option linter.all false
set_option maxRecDepth 100000
set_option autoImplicit false
/-! EvRel: how the plain data lie in the abstract heap. -/
namespace Ev
open PySem PySem.Spec PyProof.Rows L2

abbrev Mu := List (List Addr)
abbrev Fz := Addr → Prop
def mainA (m : Mu) (n : Nat) : Option Addr := (m[n]?).bind (·.head?)

def keyD : Key → D
  | .inl i => .int i
  | .inr x => .str x

/-- what is fixed: where the defs stand, the written part, the script -/
structure Zt where
  fa : Nat → Addr
  K : PySem.W.Frag
  sa : Addr
  ns : List Int
  tb : List (Addr × Str)
  wd : World

mutual
/-- the key that a datum is -/
def nkOf : D → NestedKey
  | .none => .none
  | .bool b => .num (if b then 1 else 0)
  | .int i => .num i
  | .str x => .text x
  | .tuple xs => .tup (nksOf xs)
  | _ => .none
def nksOf : List D → List NestedKey
  | [] => []
  | x :: xs => nkOf x :: nksOf xs
end
/-- an entry of a dict's table -/
def entN (wd : World) (p : NestedKey × Addr × Value) : DictEntry := ⟨p.1.hash wd, .ref p.2.1, p.2.2⟩
abbrev PrN : List (NestedKey × Addr × V) → List (NestedKey × Addr × Value) → Prop := Paired fun p q => p.1 = q.1 ∧ p.2.1 = q.2.1 ∧ RelV p.2.2 q.2.2
/-- the dict at a, its keys tuples of any depth -/
def DN (wd : World) (a : Addr) (kvs : List (NestedKey × Addr × V)) : HO := .ext fun h => ∃ xs, PrN kvs xs ∧ kvs.length ≤ sizeLine ∧ (a == sysModules) = false ∧ ∃ (o : Obj) (es : Array DictEntry) (ep : Nat), h.get? a = some o ∧ o.ExactDict ∧ o.data = .dict es ep ∧ es.toList = xs.map (entN wd) ∧ (xs.map (·.1)).Nodup
mutual
inductive Rep (z : Zt) (m : Mu) (F : Fz) (H : Hp) : V → D → Prop
  | non : Rep z m F H .non .none
  | bl (b : Bool) : Rep z m F H (.bl b) (.bool b)
  | int (i : Int) : Rep z m F H (.int i) (.int i)
  | str (x : Str) : Rep z m F H (.str x) (.str x)
  | lst {a : Addr} {vs : List V} {ds : List D} : F a → H a = some (.lst vs) → RepAll z m F H vs ds → Rep z m F H (.ref a) (.list ds)
  | tup {a : Addr} {vs : List V} {ds : List D} : F a → H a = some (.tup vs) → RepAll z m F H vs ds → Rep z m F H (.ref a) (.tuple ds)
  | dK {a : Addr} {od : Obj} {o : HO} {ds : List (D × D)} : F a → H a = some (.frz od o) → RepD z m F H a o ds → Rep z m F H (.ref a) (.dict ds)
  | fn (n : Nat) : Rep z m F H (.ref (z.fa n)) (fnD n)
  | scr : Rep z m F H (.ref z.sa) scrD
  | ob {n : Nat} {a : Addr} : mainA m n = some a → Rep z m F H (.ref a) (obD n)
inductive RepAll (z : Zt) (m : Mu) (F : Fz) (H : Hp) : List V → List D → Prop
  | nil : RepAll z m F H [] []
  | cons {v : V} {d : D} {vs : List V} {ds : List D} : Rep z m F H v d → RepAll z m F H vs ds → RepAll z m F H (v :: vs) (d :: ds)
inductive RepKV (z : Zt) (m : Mu) (F : Fz) (H : Hp) : List (Key × V) → List (D × D) → Prop
  | nil : RepKV z m F H [] []
  | cons {k : Key} {v : V} {d : D} {kvs : List (Key × V)} {ds : List (D × D)} : Rep z m F H v d → RepKV z m F H kvs ds → RepKV z m F H ((k, v) :: kvs) ((keyD k, d) :: ds)
inductive RepKN (z : Zt) (m : Mu) (F : Fz) (H : Hp) : List (NestedKey × Addr × V) → List (D × D) → Prop
  | nil : RepKN z m F H [] []
  | cons {a : Addr} {k d : D} {v : V} {kvs : List (NestedKey × Addr × V)} {ds : List (D × D)} : tkOk k = true → Rep z m F H (.ref a) k → Rep z m F H v d → RepKN z m F H kvs ds → RepKN z m F H ((nkOf k, a, v) :: kvs) ((k, d) :: ds)
/-- a dict, however it is told -/
inductive RepD (z : Zt) (m : Mu) (F : Fz) (H : Hp) : Addr → HO → List (D × D) → Prop
  | k {a : Addr} {ks : List (Key × V)} {ds : List (D × D)} : RepKV z m F H ks ds → RepD z m F H a (.dK ks) ds
  | n {a : Addr} {ks : List (NestedKey × Addr × V)} {ds : List (D × D)} : RepKN z m F H ks ds → ds ≠ [] → RepD z m F H a (DN z.wd a ks) ds
end

/-- what is kept between two moments -/
structure Fm (m : Mu) (F : Fz) (H : Hp) (m' : Mu) (F' : Fz) (H' : Hp) : Prop where
  keep : ∀ a o, H a = some o → a ∉ m.flatten → H' a = some o
  dom : ∀ a o, H a = some o → ∃ o', H' a = some o'
  new : ∀ a, a ∈ m'.flatten → a ∈ m.flatten ∨ H a = none
  main : ∀ n a, mainA m n = some a → mainA m' n = some a
  grow : ∀ a, F a → F' a
  fnew : ∀ a, F' a → F a ∨ H a = none
theorem Fm.refl (m : Mu) (F : Fz) (H : Hp) : Fm m F H m F H := ⟨fun _ _ h _ => h, fun _ o h => ⟨o, h⟩, fun _ h => .inl h, fun _ _ h => h, fun _ h => h, fun _ h => .inl h⟩
theorem Fm.unlaid {m m' : Mu} {F F' : Fz} {H H' : Hp} (f : Fm m F H m' F' H') {a : Addr} (h : H' a = none) : H a = none := by
  cases q : H a with
  | none => rfl
  | some o =>
    obtain ⟨o', e⟩ := f.dom a o q
    rw [e] at h; cases h
theorem Fm.trans {m m1 m2 : Mu} {F F1 F2 : Fz} {H H1 H2 : Hp} (f : Fm m F H m1 F1 H1) (g : Fm m1 F1 H1 m2 F2 H2) : Fm m F H m2 F2 H2 where
  keep := fun a o h hn => g.keep a o (f.keep a o h hn) fun hm => by
    rcases f.new a hm with z | z
    · exact hn z
    · rw [h] at z; cases z
  dom := fun a o h => by
    obtain ⟨o1, h1⟩ := f.dom a o h
    exact g.dom a o1 h1
  new := fun a h => by
    rcases g.new a h with z | z
    · exact f.new a z
    · exact .inr (f.unlaid z)
  main := fun n a h => g.main n a (f.main n a h)
  grow := fun a h => g.grow a (f.grow a h)
  fnew := fun a h => by
    rcases g.fnew a h with z | z
    · exact f.fnew a z
    · exact .inr (f.unlaid z)

theorem Rd.keep {H H' : Hp} {a : Addr} {u : HO} (h : Rd H a u) (k : ∀ o, H a = some o → H' a = some o) : Rd H' a u := by
  rcases h with h | ⟨o, h⟩
  · exact .inl (k _ h)
  · exact .inr ⟨o, k _ h⟩

theorem SqL.keep {K : PySem.W.Frag} {H H' : Hp} {a : Addr} {xs : List V} (h : SqL K H a xs) (k : ∀ o, H a = some o → H' a = some o) : SqL K H' a xs := by
  rcases h with h | h
  · exact .inl (Rd.keep h k)
  · exact .inr h
/-- the frozen part is kept -/
def Kp (F : Fz) (H H' : Hp) : Prop := ∀ (a : Addr) (o : HO), F a → H a = some o → H' a = some o
theorem Kp.of {F : Fz} {H H' : Hp} (hk : ∀ a o, F a → H a = some o → H' a = some o) : Kp F H H' := hk
theorem Kp.refl (F : Fz) (H : Hp) : Kp F H H := fun _ _ _ h => h
theorem Kp.trans {F F' : Fz} {H H1 H2 : Hp} (f : Kp F H H1) (g : Kp F' H1 H2) (hg : ∀ a, F a → F' a) : Kp F H H2 := fun a o h e => g a o (hg a h) (f a o h e)

section
variable {z : Zt} {m m' : Mu} {F F' : Fz} {H H' : Hp}
mutual
theorem Rep.mono (hk : Kp F H H') (hg : ∀ a, F a → F' a) (hm : ∀ n a, mainA m n = some a → mainA m' n = some a) : ∀ {v : V} {d : D}, Rep z m F H v d → Rep z m' F' H' v d
  | _, _, .non => .non
  | _, _, .bl b => .bl b
  | _, _, .int i => .int i
  | _, _, .str x => .str x
  | _, _, .lst h1 h2 h3 => .lst (hg _ h1) (hk _ _ h1 h2) (RepAll.mono hk hg hm h3)
  | _, _, .tup h1 h2 h3 => .tup (hg _ h1) (hk _ _ h1 h2) (RepAll.mono hk hg hm h3)
  | _, _, .dK h1 h2 h3 => .dK (hg _ h1) (hk _ _ h1 h2) (RepD.mono hk hg hm h3)
  | _, _, .fn n => .fn n
  | _, _, .scr => .scr
  | _, _, .ob h => .ob (hm _ _ h)
theorem RepAll.mono (hk : Kp F H H') (hg : ∀ a, F a → F' a) (hm : ∀ n a, mainA m n = some a → mainA m' n = some a) : ∀ {v : List V} {d : List D}, RepAll z m F H v d → RepAll z m' F' H' v d
  | _, _, .nil => .nil
  | _, _, .cons h1 h2 => .cons (Rep.mono hk hg hm h1) (RepAll.mono hk hg hm h2)
theorem RepKV.mono (hk : Kp F H H') (hg : ∀ a, F a → F' a) (hm : ∀ n a, mainA m n = some a → mainA m' n = some a) : ∀ {v : List (Key × V)} {d : List (D × D)}, RepKV z m F H v d → RepKV z m' F' H' v d
  | _, _, .nil => .nil
  | _, _, .cons h1 h2 => .cons (Rep.mono hk hg hm h1) (RepKV.mono hk hg hm h2)
theorem RepKN.mono (hk : Kp F H H') (hg : ∀ a, F a → F' a) (hm : ∀ n a, mainA m n = some a → mainA m' n = some a) : ∀ {v : List (NestedKey × Addr × V)} {d : List (D × D)}, RepKN z m F H v d → RepKN z m' F' H' v d
  | _, _, .nil => .nil
  | _, _, .cons h0 h1 h2 h3 => .cons h0 (Rep.mono hk hg hm h1) (Rep.mono hk hg hm h2) (RepKN.mono hk hg hm h3)
theorem RepD.mono (hk : Kp F H H') (hg : ∀ a, F a → F' a) (hm : ∀ n a, mainA m n = some a → mainA m' n = some a) : ∀ {a : Addr} {o : HO} {d : List (D × D)}, RepD z m F H a o d → RepD z m' F' H' a o d
  | _, _, _, .k h => .k (RepKV.mono hk hg hm h)
  | _, _, _, .n h hn => .n (RepKN.mono hk hg hm h) hn
end
end

/-- a table of code objects: each that it tells is frozen and bears the name q -/
def TabF (F : Fz) (H : Hp) (P : Addr) (q : Str) : Prop := ∃ ps : Array Value, H P = some (.tbl ps) ∧ TriplesOk ps.toList ∧ ∀ (pos : Pos) (cv : Value), codeAmong pos ps.toList = some cv → ∃ c, cv = .ref c ∧ F c ∧ H c = some (LamX.CodeO c q)
/-- a mutable object as it lies -/
def ObjR (z : Zt) (m : Mu) (F : Fz) (H : Hp) (as : List Addr) : MO → Prop
  | .non => as = []
  | .tab q => ∃ t, as = [t] ∧ TabF F H t q
  | .town c rs => ∃ t r, as = [t, r] ∧ H t = some (.dK [(.inr "count", .int c), (.inr "rests", .ref r)]) ∧ H r = some (.dK (rs.map fun p => (.inl p.1, .int p.2)))
  | .inst _ _ => False

/-- a list of the written part -/
def KSeq (K : PySem.W.Frag) (a : Addr) (xs : List V) : Prop := ∃ (o : Obj) (its : Array Value) (n : Nat), K.lookup a = some o ∧ o.cls = .type "list" ∧ o.dict = none ∧ o.data = .seq its n ∧ its.size ≤ sizeLine ∧ Vals xs its.toList
structure Wf (z : Zt) (m : Mu) (F : Fz) (w : W) (H : Hp) : Prop where
  len : m.length = w.length
  obj : ∀ (n : Nat) (as : List Addr) (mo : MO), m[n]? = some as → w[n]? = some mo → ObjR z m F H as mo
  nd : m.flatten.Nodup
  nF : ∀ a, a ∈ m.flatten → ¬ F a
  dom : ∀ a, F a → ∃ o, H a = some o
  mdom : ∀ a, a ∈ m.flatten → ∃ o, H a = some o
  scr : (F z.sa ∧ Rd H z.sa (.lst (z.ns.map V.int))) ∨ KSeq z.K z.sa (z.ns.map V.int)
  tab : ∀ (i : Nat) (p : Addr × Str), z.tb[i]? = some p → m[i + 1]? = some [p.1] ∧ w[i + 1]? = some (.tab p.2)

/-- the frozen part stays -/
theorem Wf.keeps {z : Zt} {m m' : Mu} {F F' : Fz} {w : W} {H H' : Hp} (x : Wf z m F w H) (f : Fm m F H m' F' H') : Kp F H H' :=
  Kp.of fun a o hF h => f.keep a o h fun hm => x.nF a hm hF
theorem Wf.rep {z : Zt} {m m' : Mu} {F F' : Fz} {w : W} {H H' : Hp} (x : Wf z m F w H) (f : Fm m F H m' F' H') {v : V} {d : D} (r : Rep z m F H v d) : Rep z m' F' H' v d := r.mono (x.keeps f) f.grow f.main
theorem Wf.repAll {z : Zt} {m m' : Mu} {F F' : Fz} {w : W} {H H' : Hp} (x : Wf z m F w H) (f : Fm m F H m' F' H') {v : List V} {d : List D} (r : RepAll z m F H v d) : RepAll z m' F' H' v d := r.mono (x.keeps f) f.grow f.main
theorem Wf.repKV {z : Zt} {m m' : Mu} {F F' : Fz} {w : W} {H H' : Hp} (x : Wf z m F w H) (f : Fm m F H m' F' H') {v : List (Key × V)} {d : List (D × D)} (r : RepKV z m F H v d) : RepKV z m' F' H' v d := r.mono (x.keeps f) f.grow f.main

theorem Wf.repD {z : Zt} {m m' : Mu} {F F' : Fz} {w : W} {H H' : Hp} (x : Wf z m F w H) (f : Fm m F H m' F' H') {a : Addr} {v : HO} {d : List (D × D)} (r : RepD z m F H a v d) : RepD z m' F' H' a v d := r.mono (x.keeps f) f.grow f.main

def isMut (s : Sl) (i : Nat) : Prop := (∃ xs, s[i]? = some (some (.l xs))) ∨ (∃ kvs, s[i]? = some (some (.m kvs)))
/-- the slots as they lie; H0: what stood at the entry -/
structure SlR (z : Zt) (m : Mu) (F : Fz) (H0 : Hp) (s : Sl) (σ : L2.St) (H : Hp) : Prop where
  len : s.length = σ.length
  imm : ∀ (i : Nat) (d : D), s[i]? = some (some (.i d)) → ∃ v, σ[i]? = some (some v) ∧ Rep z m F H v d
  lst : ∀ (i : Nat) (xs : List D), s[i]? = some (some (.l xs)) → ∃ a vs, σ[i]? = some (some (.ref a)) ∧ H a = some (.lst vs) ∧ RepAll z m F H vs xs
  dct : ∀ (i : Nat) (kvs : List (D × D)), s[i]? = some (some (.m kvs)) → ∃ a o, σ[i]? = some (some (.ref a)) ∧ H a = some o ∧ RepD z m F H a o kvs
  free : ∀ (i : Nat) (a : Addr), isMut s i → σ[i]? = some (some (.ref a)) → ¬ F a ∧ a ∉ m.flatten ∧ H0 a = none
  inj : ∀ (i j : Nat) (a : Addr), isMut s i → isMut s j → σ[i]? = some (some (.ref a)) → σ[j]? = some (some (.ref a)) → i = j

theorem SlR.there {z : Zt} {m : Mu} {F : Fz} {H0 : Hp} {s : Sl} {σ : L2.St} {H : Hp} (x : SlR z m F H0 s σ H) {i : Nat} {a : Addr} (hm : isMut s i) (ha : σ[i]? = some (some (.ref a))) : ∃ o, H a = some o := by
  rcases hm with ⟨xs, e⟩ | ⟨kvs, e⟩
  · obtain ⟨a', vs, e1, e2, _⟩ := x.lst i xs e
    rw [ha] at e1; cases e1
    exact ⟨_, e2⟩
  · obtain ⟨a', vs, e1, e2, _⟩ := x.dct i kvs e
    rw [ha] at e1; cases e1
    exact ⟨_, e2⟩

theorem SlR.fm {z : Zt} {m m' : Mu} {F F' : Fz} {w : W} {H0 H H' : Hp} {s : Sl} {σ : L2.St} (x : SlR z m F H0 s σ H) (y : Wf z m F w H) (f : Fm m F H m' F' H') : SlR z m' F' H0 s σ H' where
  len := x.len
  imm := fun i d e => by
    obtain ⟨v, e1, r⟩ := x.imm i d e
    exact ⟨v, e1, y.rep f r⟩
  lst := fun i xs e => by
    obtain ⟨a, vs, e1, e2, r⟩ := x.lst i xs e
    exact ⟨a, vs, e1, f.keep a _ e2 (x.free i a (.inl ⟨xs, e⟩) e1).2.1, y.repAll f r⟩
  dct := fun i xs e => by
    obtain ⟨a, vs, e1, e2, r⟩ := x.dct i xs e
    exact ⟨a, vs, e1, f.keep a _ e2 (x.free i a (.inr ⟨xs, e⟩) e1).2.1, y.repD f r⟩
  free := fun i a hm ha => by
    obtain ⟨h1, h2, h3⟩ := x.free i a hm ha
    obtain ⟨o, ho⟩ := x.there hm ha
    refine ⟨fun hF => ?_, fun hM => ?_, h3⟩
    · rcases f.fnew a hF with q | q
      · exact h1 q
      · rw [ho] at q; cases q
    · rcases f.new a hM with q | q
      · exact h2 q
      · rw [ho] at q; cases q
  inj := x.inj

/-! ### steps of the heap -/
section
variable {z : Zt} {m : Mu} {F : Fz} {w : W} {H : Hp}
/-- a new object is laid, not frozen -/
theorem Fm.laid {a : Addr} {o : HO} (hn : H a = none) : Fm m F H m F (upd H a o) :=
  ⟨fun b u h _ => by rw [upd_ne (ne_of_none h hn)]; exact h, fun b u h => ⟨u, by rw [upd_ne (ne_of_none h hn)]; exact h⟩, fun _ h => .inl h, fun _ _ h => h, fun _ h => h, fun _ h => .inl h⟩
theorem TabF.fm {F' : Fz} {H' : Hp} {t : Addr} {q : Str} (x : TabF F H t q) (hk : ∀ o, H t = some o → H' t = some o) (hF : ∀ a, F a → F' a) (hg : ∀ a o, F a → H a = some o → H' a = some o) : TabF F' H' t q := by
  obtain ⟨ps, h1, h2, h3⟩ := x
  refine ⟨ps, hk _ h1, h2, fun pos cv hc => ?_⟩
  obtain ⟨c, e, f, h⟩ := h3 pos cv hc
  exact ⟨c, e, hF c f, hg c _ f h⟩
theorem ObjR.fm {m' : Mu} {F' : Fz} {H' : Hp} {as : List Addr} {mo : MO} (x : ObjR z m F H as mo) (hk : ∀ a o, a ∈ as → H a = some o → H' a = some o) (hF : ∀ a, F a → F' a) (hg : ∀ a o, F a → H a = some o → H' a = some o) : ObjR z m' F' H' as mo := by
  cases mo with
  | non => exact x
  | tab q =>
    obtain ⟨t, rfl, h⟩ := x
    exact ⟨t, rfl, h.fm (fun o e => hk t o (by simp) e) hF hg⟩
  | town c rs =>
    obtain ⟨t, r, rfl, h1, h2⟩ := x
    exact ⟨t, r, rfl, hk t _ (by simp) h1, hk r _ (by simp) h2⟩
  | inst c fs => exact x.elim
/-- all objects as before, the frozen part perhaps greater -/
theorem Wf.more {F' : Fz} {H' : Hp} (x : Wf z m F w H) (hg : ∀ a, F a → F' a) (hk : ∀ a o, H a = some o → H' a = some o) (hF : ∀ a, F' a → (F a ∨ H a = none ∨ a ∉ m.flatten) ∧ ∃ o, H' a = some o) : Wf z m F' w H' where
  len := x.len
  obj := fun n as mo h1 h2 => (x.obj n as mo h1 h2).fm (fun a o _ h => hk a o h) hg fun a o _ h => hk a o h
  nd := x.nd
  nF := fun a hm hF' => by
    rcases (hF a hF').1 with q | q | q
    · exact x.nF a hm q
    · obtain ⟨o, ho⟩ := x.mdom a hm
      rw [ho] at q; cases q
    · exact q hm
  dom := fun a h => (hF a h).2
  mdom := fun a h => by
    obtain ⟨o, ho⟩ := x.mdom a h
    exact ⟨o, hk a o ho⟩
  scr := x.scr.imp (fun ⟨h1, h2⟩ => ⟨hg _ h1, Rd.keep h2 fun o h => hk _ o h⟩) id
  tab := x.tab
theorem Wf.laid {a : Addr} {o : HO} (x : Wf z m F w H) (hn : H a = none) : Wf z m F w (upd H a o) :=
  x.more (fun _ h => h) (fun b u h => by rw [upd_ne (ne_of_none h hn)]; exact h) fun b hF => ⟨.inl hF, by
    obtain ⟨u, hu⟩ := x.dom b hF
    exact ⟨u, by rw [upd_ne (ne_of_none hu hn)]; exact hu⟩⟩
theorem Wf.sq (x : Wf z m F w H) : SqL z.K H z.sa (z.ns.map V.int) := by
  rcases x.scr with ⟨_, h⟩ | h
  · exact .inl h
  · exact .inr h
/-- an object that is neither frozen nor of the store is written -/
theorem Wf.updA {a : Addr} {o : HO} (x : Wf z m F w H) (hF : ¬ F a) (hm : a ∉ m.flatten) : Wf z m F w (L2.upd H a o) where
  len := x.len
  obj := fun n as mo h1 h2 => (x.obj n as mo h1 h2).fm (fun b u hb h => by
    have : b ≠ a := fun e => hm (e ▸ List.mem_flatten.mpr ⟨as, List.mem_of_getElem? h1, hb⟩)
    rw [upd_ne this]; exact h) (fun _ h => h) fun b u hb h => by
    have : b ≠ a := fun e => hF (e ▸ hb)
    rw [upd_ne this]; exact h
  nd := x.nd
  nF := x.nF
  dom := fun b h => by
    have : b ≠ a := fun e => hF (e ▸ h)
    rw [upd_ne this]; exact x.dom b h
  mdom := fun b h => by
    have : b ≠ a := fun e => hm (e ▸ h)
    rw [upd_ne this]; exact x.mdom b h
  scr := x.scr.imp (fun ⟨h1, h2⟩ => ⟨h1, Rd.keep h2 fun u h => by
    have : z.sa ≠ a := fun e => hF (e ▸ h1)
    rw [upd_ne this]; exact h⟩) id
  tab := x.tab
theorem Kp.updA {a : Addr} {o : HO} (hF : ¬ F a) : Kp F H (L2.upd H a o) := Kp.of fun b u h e => by
  have : b ≠ a := fun q => hF (q ▸ h)
  rw [upd_ne this]; exact e
/-- what was new at the start may be written -/
theorem Fm.updNew {m' : Mu} {F' : Fz} {H' : Hp} {a : Addr} {o : HO} (f : Fm m F H m' F' H') (h : H a = none) : Fm m F H m' F' (L2.upd H' a o) :=
  ⟨fun b u e hn => by rw [upd_ne (ne_of_none e h)]; exact f.keep b u e hn, fun b u e => by
    obtain ⟨u', e'⟩ := f.dom b u e
    exact ⟨u', by rw [upd_ne (ne_of_none e h)]; exact e'⟩, f.new, f.main, f.grow, f.fnew⟩
/-- one more address is frozen -/
def frzA (F : Fz) (a : Addr) : Fz := fun b => F b ∨ b = a
/-- a new object is laid, and frozen -/
theorem Fm.laidF {a : Addr} {o : HO} (hn : H a = none) : Fm m F H m (frzA F a) (upd H a o) :=
  ⟨fun b u h _ => by rw [upd_ne (ne_of_none h hn)]; exact h, fun b u h => ⟨u, by rw [upd_ne (ne_of_none h hn)]; exact h⟩, fun _ h => .inl h, fun _ _ h => h, fun _ h => .inl h, fun b h => by
    rcases h with h | h
    · exact .inl h
    · exact .inr (h ▸ hn)⟩
theorem Wf.laidF {a : Addr} {o : HO} (x : Wf z m F w H) (hn : H a = none) : Wf z m (frzA F a) w (upd H a o) :=
  x.more (fun _ h => .inl h) (fun b u h => by rw [upd_ne (ne_of_none h hn)]; exact h) fun b hF => by
    rcases hF with hF | hF
    · obtain ⟨u, hu⟩ := x.dom b hF
      exact ⟨.inl hF, u, by rw [upd_ne (ne_of_none hu hn)]; exact hu⟩
    · subst hF
      exact ⟨.inr (.inl hn), o, upd_same⟩
/-- an object that stands is frozen -/
theorem Fm.frz0 {a : Addr} {m0 : Mu} {F0 : Fz} {H0 : Hp} (f : Fm m0 F0 H0 m F H) (h0 : H0 a = none) : Fm m0 F0 H0 m (frzA F a) H :=
  ⟨f.keep, f.dom, f.new, f.main, fun b h => .inl (f.grow b h), fun b h => by
    rcases h with h | h
    · exact f.fnew b h
    · exact .inr (h ▸ h0)⟩
theorem Wf.frz {a : Addr} {o : HO} (x : Wf z m F w H) (ha : H a = some o) (hm : a ∉ m.flatten) : Wf z m (frzA F a) w H :=
  x.more (fun _ h => .inl h) (fun _ _ h => h) fun b hF => by
    rcases hF with hF | hF
    · exact ⟨.inl hF, x.dom b hF⟩
    · subst hF
      exact ⟨.inr (.inr hm), o, ha⟩
end

/-- what statements keep -/
structure Fk (m : Mu) (F : Fz) (H : Hp) (m' : Mu) (F' : Fz) (H' : Hp) : Prop where
  kp : Kp F H H'
  grow : ∀ a, F a → F' a
  main : ∀ n a, mainA m n = some a → mainA m' n = some a
theorem Fk.refl (m : Mu) (F : Fz) (H : Hp) : Fk m F H m F H := ⟨Kp.refl _ _, fun _ h => h, fun _ _ h => h⟩
theorem Fk.trans {m m1 m2 : Mu} {F F1 F2 : Fz} {H H1 H2 : Hp} (f : Fk m F H m1 F1 H1) (g : Fk m1 F1 H1 m2 F2 H2) : Fk m F H m2 F2 H2 :=
  ⟨f.kp.trans g.kp f.grow, fun a h => g.grow a (f.grow a h), fun n a h => g.main n a (f.main n a h)⟩
theorem Wf.fk {z : Zt} {m m' : Mu} {F F' : Fz} {w : W} {H H' : Hp} (x : Wf z m F w H) (f : Fm m F H m' F' H') : Fk m F H m' F' H' := ⟨x.keeps f, f.grow, f.main⟩
theorem Fk.rep {z : Zt} {m m' : Mu} {F F' : Fz} {H H' : Hp} (f : Fk m F H m' F' H') {v : V} {d : D} (r : Rep z m F H v d) : Rep z m' F' H' v d := r.mono f.kp f.grow f.main
theorem Fk.repAll {z : Zt} {m m' : Mu} {F F' : Fz} {H H' : Hp} (f : Fk m F H m' F' H') {v : List V} {d : List D} (r : RepAll z m F H v d) : RepAll z m' F' H' v d := r.mono f.kp f.grow f.main
theorem Fk.repKV {z : Zt} {m m' : Mu} {F F' : Fz} {H H' : Hp} (f : Fk m F H m' F' H') {v : List (Key × V)} {d : List (D × D)} (r : RepKV z m F H v d) : RepKV z m' F' H' v d := r.mono f.kp f.grow f.main

/-! ### reading -/
section
variable {z : Zt} {m : Mu} {F : Fz} {H : Hp} {K : PySem.W.Frag}
mutual
/-- data without dicts, for the library's rules -/
theorem Rep.dp : ∀ {v : V} {d : D}, Rep z m F H v d → d.canLay0 = true → Dp K H v d
  | _, _, .non, _ => .non
  | _, _, .bl b, _ => .bl b
  | _, _, .int i, _ => .int i
  | _, _, .str x, _ => .str x
  | _, _, .lst _ h2 h3, h => .lst (.inl (.inl h2)) (RepAll.dp h3 (by simpa [PyData.canLay0] using h))
  | _, _, .tup _ h2 h3, h => .tup (.inl (.inl h2)) (RepAll.dp h3 (by simpa [PyData.canLay0] using h))
  | _, _, .dK _ _ _, h => by simp [PyData.canLay0] at h
  | _, _, .fn n, h => by simp [fnD, PyData.canLay0] at h
  | _, _, .scr, h => by simp [scrD, PyData.canLay0] at h
  | _, _, .ob _, h => by simp [obD, PyData.canLay0] at h
theorem RepAll.dp : ∀ {v : List V} {d : List D}, RepAll z m F H v d → PyData.canLayAll0 d = true → DpAll K H v d
  | _, _, .nil, _ => .nil
  | _, _, .cons h1 h2, h => by
    have h' := (Bool.and_eq_true_iff.mp (by rw [PyData.canLayAll0] at h; exact h))
    exact .cons (Rep.dp h1 h'.1) (RepAll.dp h2 h'.2)
end
theorem RepAll.length : ∀ {vs : List V} {ds : List D}, RepAll z m F H vs ds → vs.length = ds.length
  | _, _, .nil => rfl
  | _, _, .cons _ h => by rw [List.length_cons, List.length_cons, RepAll.length h]
theorem RepAll.get : ∀ {vs : List V} {ds : List D} {i : Nat} {d : D}, RepAll z m F H vs ds → ds[i]? = some d → ∃ v, vs[i]? = some v ∧ Rep z m F H v d
  | _, _, _, _, .nil, e => by simp at e
  | _, _, 0, _, .cons h _, e => by
    simp at e; subst e
    exact ⟨_, rfl, h⟩
  | _, _, i + 1, d, .cons _ t, e => by
    obtain ⟨v, h1, h2⟩ := RepAll.get (i := i) (d := d) t (by simpa using e)
    exact ⟨v, by simpa using h1, h2⟩
theorem RepAll.getV : ∀ {vs : List V} {ds : List D} {i : Nat} {v : V}, RepAll z m F H vs ds → vs[i]? = some v → ∃ d, ds[i]? = some d ∧ Rep z m F H v d
  | _, _, _, _, .nil, e => by simp at e
  | _, _, 0, _, .cons h _, e => by
    simp at e; subst e
    exact ⟨_, rfl, h⟩
  | _, _, i + 1, d, .cons _ t, e => by
    obtain ⟨v, h1, h2⟩ := RepAll.getV (i := i) (v := d) t (by simpa using e)
    exact ⟨v, by simpa using h1, h2⟩
theorem RepAll.append : ∀ {vs us : List V} {ds es : List D}, RepAll z m F H vs ds → RepAll z m F H us es → RepAll z m F H (vs ++ us) (ds ++ es)
  | _, _, _, _, .nil, h => h
  | _, _, _, _, .cons h t, h' => .cons h (RepAll.append t h')
theorem RepAll.take : ∀ {vs : List V} {ds : List D} (n : Nat), RepAll z m F H vs ds → RepAll z m F H (vs.take n) (ds.take n)
  | _, _, 0, _ => .nil
  | _, _, _ + 1, .nil => .nil
  | _, _, n + 1, .cons h t => .cons h (RepAll.take n t)
theorem RepAll.drop : ∀ {vs : List V} {ds : List D} (n : Nat), RepAll z m F H vs ds → RepAll z m F H (vs.drop n) (ds.drop n)
  | _, _, 0, h => h
  | _, _, _ + 1, .nil => .nil
  | _, _, n + 1, .cons _ t => RepAll.drop n t
theorem RepAll.rep {vs : List V} {ds : List D} (h : RepAll z m F H vs ds) : ∀ k : Nat, RepAll z m F H (List.replicate k vs).flatten (List.replicate k ds).flatten
  | 0 => .nil
  | k + 1 => by
    rw [List.replicate_succ, List.replicate_succ, List.flatten_cons, List.flatten_cons]
    exact h.append (RepAll.rep h k)
end
end Ev

set_option Elab.async false
set_option linter.all false
set_option maxRecDepth 100000
set_option autoImplicit false
/-! EvS1: what a piece of code promises; names, constants, displays, two expressions in a row. -/
namespace Ev
open PySem PySem.Spec PyProof.Rows L2

/-- what is fixed in a body: the addresses, the classes of the exceptions, the wish about exceptions, the heap at the entry -/
structure Bx where
  z : Zt
  cl : Nat → Value
  E : XK
  H0 : Hp
  m0 : Mu
  F0 : Fz

def Post {α β : Type} (b : Bx) (m : Mu) (F : Fz) (H : Hp) (r : R α) (Rl : Mu → Fz → Hp → β → α → Prop) (Q : β → Hp → Prop) : Prop :=
  match r with
  | .ok d w' => ∀ m' F' H' v, Fm m F H m' F' H' → Wf b.z m' F' w' H' → Rl m' F' H' v d → Q v H'
  | .exc c w' => ∀ m' F' H', Fm m F H m' F' H' → Wf b.z m' F' w' H' → b.E (b.cl c) none H'
  | .bad => False

section
variable {α β γ δ : Type} {b : Bx} {m m1 : Mu} {F F1 : Fz} {H H1 : Hp} {r : R α} {Rl : Mu → Fz → Hp → β → α → Prop} {Q Q' : β → Hp → Prop} {w : W}
theorem Post.after (h : Post b m F H r Rl Q) (f : Fm m F H m1 F1 H1) : Post b m1 F1 H1 r Rl Q := by
  cases r with
  | ok d w' => exact fun m' F' H' v g => h m' F' H' v (f.trans g)
  | exc c w' => exact fun m' F' H' g => h m' F' H' (f.trans g)
  | bad => exact h
theorem Post.imp (h : Post b m F H r Rl Q) (hq : ∀ v H, Q v H → Q' v H) : Post b m F H r Rl Q' := by
  cases r with
  | ok d w' => exact fun m' F' H' v g wf rl => hq _ _ (h m' F' H' v g wf rl)
  | exc c w' => exact h
  | bad => exact h
theorem Post.bind {x : M α} {k : α → M γ} {Rk : Mu → Fz → Hp → δ → γ → Prop} {Qk : δ → Hp → Prop} (h : Post b m F H (bnd x k w) Rk Qk) :
    Post b m F H (x w) Rl (fun v H1 => ∃ m1 F1 d w1, Fm m F H m1 F1 H1 ∧ Wf b.z m1 F1 w1 H1 ∧ Rl m1 F1 H1 v d ∧ Post b m1 F1 H1 (k d w1) Rk Qk) := by
  unfold bnd at h
  cases e : x w with
  | ok d w' =>
    rw [e] at h
    exact fun m' F' H' v g wf rl => ⟨m', F', d, w', g, wf, rl, Post.after h g⟩
  | exc c w' =>
    rw [e] at h
    exact h
  | bad =>
    rw [e] at h
    exact h
/-- the pure part -/
theorem Post.lift {o : Option α} {k : α → M γ} {Rk : Mu → Fz → Hp → δ → γ → Prop} {Qk : δ → Hp → Prop} (h : Post b m F H (bnd (lift o) k w) Rk Qk) : ∃ a, o = some a ∧ Post b m F H (k a w) Rk Qk := by
  cases o with
  | none => exact h.elim
  | some a => exact ⟨a, rfl, h⟩
theorem Post.lift1 {o : Option α} (h : Post b m F H (Ev.lift o w) Rl Q) : ∃ a, o = some a ∧ Post b m F H (.ok a w) Rl Q := by
  cases o with
  | none => exact h.elim
  | some a => exact ⟨a, rfl, h⟩
end

/-- what is read: the list or dict itself may be owned by a slot -/
def RepR (z : Zt) (m : Mu) (F : Fz) (H : Hp) (v : V) (d : D) : Prop := Rep z m F H v d ∨
  (∃ a vs ds, v = .ref a ∧ d = .list ds ∧ H a = some (.lst vs) ∧ RepAll z m F H vs ds ∧ a ∉ m.flatten) ∨
  (∃ a o kvs, v = .ref a ∧ d = .dict kvs ∧ H a = some o ∧ RepD z m F H a o kvs ∧ a ∉ m.flatten)
section
variable {z : Zt} {m m' : Mu} {F F' : Fz} {H H' : Hp} {w : W} {v : V} {d : D}
theorem Fm.out (f : Fm m F H m' F' H') {a : Addr} {o : HO} (h : H a = some o) (hn : a ∉ m.flatten) : a ∉ m'.flatten := fun hm => by
  rcases f.new a hm with q | q
  · exact hn q
  · rw [h] at q; cases q
theorem Wf.rr (x : Wf z m F w H) (h : RepR z m F H v d) (f : Fm m F H m' F' H') : RepR z m' F' H' v d := by
  rcases h with h | ⟨a, vs, ds, rfl, rfl, h1, h2, h3⟩ | ⟨a, vs, ds, rfl, rfl, h1, h2, h3⟩
  · exact .inl (x.rep f h)
  · exact .inr (.inl ⟨a, vs, ds, rfl, rfl, f.keep a _ h1 h3, x.repAll f h2, f.out h1 h3⟩)
  · exact .inr (.inr ⟨a, vs, ds, rfl, rfl, f.keep a _ h1 h3, x.repD f h2, f.out h1 h3⟩)
theorem Rep.r (h : Rep z m F H v d) : RepR z m F H v d := .inl h
end

/-- a reading -/
def rd {α β : Type} (b : Bx) (Rl : Mu → Fz → Hp → β → α → Prop) (f : Sl → M α) : L2.St → Hp → (β → Hp → Prop) → Prop := fun σ H Q =>
  ∃ m F s w, Wf b.z m F w H ∧ SlR b.z m F b.H0 s σ H ∧ Post b m F H (f s w) Rl Q

section
variable {X : Cx} {e : Expr}
theorem _root_.L2.PE.imp {t t' : TE} (h : PE X e t) (i : ∀ σ H Q, t' σ H Q → t σ H Q) : PE X e t' := ⟨fun pins s σ H Q I q => h.run pins s σ H Q I (i σ H Q q)⟩
theorem _root_.L2.PT.imp {t t' : TT} (h : PT X e t) (i : ∀ σ H Q, t' σ H Q → t σ H Q) : PT X e t' := ⟨fun pins s σ H Q I q => h.run pins s σ H Q I (i σ H Q q)⟩
theorem _root_.L2.PW.imp {t t' : TT} (h : PW X e t) (i : ∀ σ H Q, t' σ H Q → t σ H Q) : PW X e t' := ⟨fun wh pins s σ H Q I q => h.run wh pins s σ H Q I (i σ H Q q)⟩
theorem _root_.L2.PA.imp {es : List Expr} {t t' : TA} (h : PA X es t) (i : ∀ σ H Q, t' σ H Q → t σ H Q) : PA X es t' := ⟨fun pos pins s σ H Q I q => h.run pos pins s σ H Q I (i σ H Q q)⟩
theorem _root_.L2.PS.imp {st : Stmt} {t t' : TS} (h : PS X st t) (i : ∀ D σ H, t' D σ H → t D σ H) : PS X st t' := ⟨fun pins s σ H D I q => h.run pins s σ H D I (i D σ H q)⟩
theorem _root_.L2.PSs.imp {st : List Stmt} {t t' : TS} (h : PSs X st t) (i : ∀ D σ H, t' D σ H → t D σ H) : PSs X st t' := ⟨fun pins s σ H D I q => h.run pins s σ H D I (i D σ H q)⟩
theorem _root_.L2.PI.imp {tg it : Expr} {t t' : TI} (h : PI X tg it t) (i : ∀ σ H Q, t' σ H Q → t σ H Q) : PI X tg it t' := ⟨fun pins s σ H Q I q => h.run pins s σ H Q I (i σ H Q q)⟩
theorem _root_.L2.PG.imp {tg : Expr} {t t' : TG} (h : PG X tg t) (i : ∀ v σ H Q, t' v σ H Q → t v σ H Q) : PG X tg t' := ⟨fun pins s σ H v u Q I r q => h.run pins s σ H v u Q I r (i v σ H Q q)⟩
end

/-- the readings of expressions: strict, and for reading alone -/
abbrev rE (b : Bx) (f : Sl → M D) : TE := rd b (Rep b.z) f
abbrev rR (b : Bx) (f : Sl → M D) : TE := rd b (RepR b.z) f
abbrev rA (b : Bx) (f : Sl → M (List D)) : TA := rd b (RepAll b.z) f
abbrev EqL {α : Type} : Mu → Fz → Hp → α → α → Prop := fun _ _ _ x y => x = y
abbrev rT (b : Bx) (f : Sl → M Bool) : TT := rd b EqL f

section
variable {X : Cx} {b : Bx} {cf : CF}
/-- what is strict may be read -/
theorem rE.toR {f : Sl → M D} {e : Expr} (h : PE X e (rE b f)) : PE X e (rR b f) := h.imp fun σ H Q ⟨m, F, s, w, wf, sl, p⟩ => ⟨m, F, s, w, wf, sl, by
  unfold Post at p ⊢
  cases q : f s w with
  | ok d w' =>
    rw [q] at p
    exact fun m' F' H' v g wf' r => p m' F' H' v g wf' (.inl r)
  | exc c w' => rw [q] at p; exact p
  | bad => rw [q] at p; exact p⟩

/-! ### names, constants -/
theorem se_var {i : Nat} {x : Str} {pos : Pos} (hN : X.N[i]? = some x) (hv : Vis X.env.scope x) (hd : (x == ("__debug__" : Str)) = false) (hcd : (x == ("__classdict__" : Str)) = false) : PE X (.Name x pos) (rE b (evE cf (.var i))) :=
  (pe_var hN hv hd hcd).imp fun σ H Q ⟨m, F, s, w, wf, sl, p⟩ => by
    have p : Post b m F H (lift (getI s i) w) (Rep b.z) Q := by simpa only [evE] using p
    obtain ⟨d, e, p⟩ := p.lift1
    unfold getI at e
    split at e
    · rename_i d' q
      cases e
      obtain ⟨v, e1, r⟩ := sl.imm i _ q
      exact ⟨v, e1, p m F H v (Fm.refl _ _ _) wf r⟩
    · cases e
theorem se_pk {i : Nat} {x : Str} {pos : Pos} (hN : X.N[i]? = some x) (hv : Vis X.env.scope x) (hd : (x == ("__debug__" : Str)) = false) (hcd : (x == ("__classdict__" : Str)) = false) : PE X (.Name x pos) (rR b (evE cf (.pk i))) :=
  (pe_var hN hv hd hcd).imp fun σ H Q ⟨m, F, s, w, wf, sl, p⟩ => by
    have p : Post b m F H (lift (getP s i) w) (RepR b.z) Q := by simpa only [evE] using p
    obtain ⟨d, e, p⟩ := p.lift1
    unfold getP at e
    split at e
    · rename_i d' q
      cases e
      obtain ⟨v, e1, r⟩ := sl.imm i _ q
      exact ⟨v, e1, p m F H v (Fm.refl _ _ _) wf (.inl r)⟩
    · rename_i xs q
      cases e
      obtain ⟨a, vs, e1, e2, r⟩ := sl.lst i _ q
      obtain ⟨_, h2, _⟩ := sl.free i a (.inl ⟨xs, q⟩) e1
      exact ⟨.ref a, e1, p m F H _ (Fm.refl _ _ _) wf (.inr (.inl ⟨a, vs, xs, rfl, rfl, e2, r, h2⟩))⟩
    · rename_i xs q
      cases e
      obtain ⟨a, vs, e1, e2, r⟩ := sl.dct i _ q
      obtain ⟨_, h2, _⟩ := sl.free i a (.inr ⟨xs, q⟩) e1
      exact ⟨.ref a, e1, p m F H _ (Fm.refl _ _ _) wf (.inr (.inr ⟨a, vs, xs, rfl, rfl, e2, r, h2⟩))⟩
    · cases e
/-- a constant -/
theorem se_c {e : Expr} {v : V} {d : D} {f : Sl → M D} (h : PE X e (tC v)) (hf : ∀ s w, f s w = .ok d w) (r : ∀ m F H, Rep b.z m F H v d) : PE X e (rE b f) :=
  h.imp fun σ H Q ⟨m, F, s, w, wf, sl, p⟩ => by
    rw [hf] at p
    exact p m F H v (Fm.refl _ _ _) wf (r m F H)

/-! ### arguments -/
def notStar : Expr → Bool
  | .Starred .. => false
  | _ => true
theorem star_cons {e : Expr} {es : List Expr} {env : Env} (h : notStar e = true) : starEach (e :: es) env = (false, eval e env) :: starEach es env := by
  cases e <;> first | rfl | (exact absurd h (by simp [notStar]))
theorem sa_nil : PA X [] (rA b (evEs cf .nil)) := pa_nil.imp fun σ H Q ⟨m, F, s, w, wf, sl, p⟩ => p m F H [] (Fm.refl _ _ _) wf .nil
theorem sa_cons {e : Expr} {es : List Expr} {c : E} {cs : Es} (he : PE X e (rE b (evE cf c))) (hes : PA X es (rA b (evEs cf cs))) (hs : notStar e = true) : PA X (e :: es) (rA b (evEs cf (.cons c cs))) :=
  (pa_cons he hes (star_cons hs)).imp fun σ H Q ⟨m, F, s, w, wf, sl, p⟩ => by
    have p : Post b m F H (bnd (evE cf c s) (fun x => bnd (evEs cf cs s) fun r => ret (x :: r)) w) (RepAll b.z) Q := by simpa only [evEs] using p
    refine ⟨m, F, s, w, wf, sl, (p.bind).imp fun x H1 ⟨m1, F1, d, w1, f1, wf1, r1, p1⟩ => ?_⟩
    refine ⟨m1, F1, s, w1, wf1, sl.fm wf f1, (p1.bind).imp fun xs H2 ⟨m2, F2, ds, w2, f2, wf2, r2, p2⟩ => ?_⟩
    exact p2 m2 F2 H2 _ (Fm.refl _ _ _) wf2 (.cons (wf1.rep f2 r1) r2)

/-! ### displays -/
theorem lim_eq : LIM = sizeLine := by rw [sizeLine_eq]; rfl
theorem se_tup {es : List Expr} {cs : Es} {x1 : Nat} {pos : Pos} (h : PA X es (rA b (evEs cf cs))) : PE X (.Tuple es x1 pos) (rE b (evE cf (.tup cs))) :=
  (pe_tup h).imp fun σ H Q ⟨m, F, s, w, wf, sl, p⟩ => by
    have p : Post b m F H (bnd (evEs cf cs s) (fun ds => if ds.length ≤ LIM then ret (.tuple ds) else bad) w) (Rep b.z) Q := by simpa only [evE] using p
    refine ⟨m, F, s, w, wf, sl, (p.bind).imp fun vs H1 ⟨m1, F1, ds, w1, f1, wf1, r1, p1⟩ => ?_⟩
    by_cases hl : ds.length ≤ LIM
    · rw [if_pos hl] at p1
      refine ⟨by rw [r1.length, ← lim_eq]; exact hl, fun q hq => ?_⟩
      exact p1 m1 (frzA F1 q) _ _ (Fm.laidF hq) (wf1.laidF hq) (.tup (.inr rfl) upd_same (wf1.repAll (Fm.laidF hq) r1))
    · rw [if_neg hl] at p1
      exact p1.elim
end
end Ev

set_option Elab.async false
set_option linter.all false
set_option maxRecDepth 100000
set_option autoImplicit false
/-! EvS2: operators. -/
namespace Ev
open PySem PySem.Spec PyProof.Rows L2

section
variable {z : Zt} {m : Mu} {F : Fz} {H : Hp} {v : V}
theorem RepR.int {i : Int} (h : RepR z m F H v (.int i)) : v = .int i := by
  rcases h with h | ⟨_, _, _, _, q, _⟩ | ⟨_, _, _, _, q, _⟩
  · cases h; rfl
  · cases q
  · cases q
theorem RepR.bool {i : Bool} (h : RepR z m F H v (.bool i)) : v = .bl i := by
  rcases h with h | ⟨_, _, _, _, q, _⟩ | ⟨_, _, _, _, q, _⟩
  · cases h; rfl
  · cases q
  · cases q
theorem RepR.str {i : Str} (h : RepR z m F H v (.str i)) : v = .str i := by
  rcases h with h | ⟨_, _, _, _, q, _⟩ | ⟨_, _, _, _, q, _⟩
  · cases h; rfl
  · cases q
  · cases q
theorem RepR.non (h : RepR z m F H v .none) : v = .non := by
  rcases h with h | ⟨_, _, _, _, q, _⟩ | ⟨_, _, _, _, q, _⟩
  · cases h; rfl
  · cases q
  · cases q
theorem RepR.list {ds : List D} (h : RepR z m F H v (.list ds)) : ∃ a vs, v = .ref a ∧ H a = some (.lst vs) ∧ RepAll z m F H vs ds := by
  rcases h with h | ⟨a, vs, _, e, q, h1, h2, _⟩ | ⟨_, _, _, _, q, _⟩
  · cases h with
    | lst h1 h2 h3 => exact ⟨_, _, rfl, h2, h3⟩
  · cases q
    exact ⟨a, vs, e, h1, h2⟩
  · cases q
theorem RepR.tuple {ds : List D} (h : RepR z m F H v (.tuple ds)) : ∃ a vs, v = .ref a ∧ H a = some (.tup vs) ∧ RepAll z m F H vs ds ∧ F a := by
  rcases h with h | ⟨a, vs, _, e, q, h1, h2, _⟩ | ⟨_, _, _, _, q, _⟩
  · cases h with
    | tup h1 h2 h3 => exact ⟨_, _, rfl, h2, h3, h1⟩
  · cases q
  · cases q
theorem tk_key {k : D} (h : tkOk k = true) : keyOk k = false := by
  simp only [tkOk, Bool.and_eq_true] at h
  cases k <;> first | rfl | (exact absurd h.1.1 (by simp [isTup]))
/-- keys of ints and texts -/
theorem RepD.keyed {a : Addr} {o : HO} {ds : List (D × D)} (h : RepD z m F H a o ds) (hk : (ds.all fun p => keyOk p.1) = true) : ∃ ks, o = .dK ks ∧ RepKV z m F H ks ds := by
  cases h with
  | k r => exact ⟨_, rfl, r⟩
  | n r hn =>
    exfalso
    cases r with
    | nil => exact hn rfl
    | cons h0 _ _ _ =>
      rw [List.all_cons, Bool.and_eq_true, tk_key h0] at hk
      cases hk.1
theorem RepR.dict {ds : List (D × D)} (h : RepR z m F H v (.dict ds)) (hk : (ds.all fun p => keyOk p.1) = true) : ∃ a ks, v = .ref a ∧ Rd H a (.dK ks) ∧ RepKV z m F H ks ds := by
  rcases h with h | ⟨a, vs, _, e, q, h1, h2, _⟩ | ⟨a, vs, _, e, q, h1, h2, _⟩
  · generalize hd : PyData.dict ds = d at h
    cases h with
    | dK h1 h2 h3 =>
      cases hd
      obtain ⟨ks, e, r⟩ := RepD.keyed h3 hk
      subst e
      exact ⟨_, _, rfl, .inr ⟨_, h2⟩, r⟩
    | fn n => cases hd; exact absurd hk (by simp [keyOk])
    | scr => cases hd; exact absurd hk (by simp [keyOk])
    | ob h => cases hd; exact absurd hk (by simp [keyOk])
    | _ => cases hd
  · cases q
  · cases q
    obtain ⟨ks, e2, r⟩ := RepD.keyed h2 hk
    subst e2
    exact ⟨a, ks, e, .inl h1, r⟩
/-- for the library's rules -/
theorem RepR.dp {K : PySem.W.Frag} {d : D} (h : RepR z m F H v d) (hd : ok2 d = true) : Dp K H v d := by
  have hc := SeqAt.canLay_of_shaped hd
  rcases h with h | ⟨a, vs, ds, rfl, rfl, h1, h2, _⟩ | ⟨a, vs, _, e, rfl, h1, h2, _⟩
  · exact h.dp hc
  · exact .lst (.inl (.inl h1)) (h2.dp (by simpa [PyData.canLay0] using hc))
  · simp [PyData.canLay0] at hc
end

/-- an operator's promise by data -/
def rOp (b : Bx) (f : D → D → Option D) : R2 := fun x y H Q => ∃ m F w dx dy, Wf b.z m F w H ∧ RepR b.z m F H x dx ∧ RepR b.z m F H y dy ∧ Post b m F H (lift (f dx dy) w) (Rep b.z) Q

section
variable {X : Cx} {b : Bx}
/-- a new tuple, a new list: frozen at once -/
theorem Post.tup {m : Mu} {F : Fz} {H : Hp} {w : W} {ds : List D} {Q : VK} {vs : List V} (p : Post b m F H (.ok (.tuple ds) w) (Rep b.z) Q) (wf : Wf b.z m F w H) (r : RepAll b.z m F H vs ds) : ∀ q, H q = none → Q (.ref q) (upd H q (.tup vs)) :=
  fun q hq => p m (frzA F q) _ _ (Fm.laidF hq) (wf.laidF hq) (.tup (.inr rfl) upd_same (wf.repAll (Fm.laidF hq) r))
theorem Post.lst {m : Mu} {F : Fz} {H : Hp} {w : W} {ds : List D} {Q : VK} {vs : List V} (p : Post b m F H (.ok (.list ds) w) (Rep b.z) Q) (wf : Wf b.z m F w H) (r : RepAll b.z m F H vs ds) : ∀ q, H q = none → Q (.ref q) (upd H q (.lst vs)) :=
  fun q hq => p m (frzA F q) _ _ (Fm.laidF hq) (wf.laidF hq) (.lst (.inr rfl) upd_same (wf.repAll (Fm.laidF hq) r))
theorem Post.here {m : Mu} {F : Fz} {H : Hp} {w : W} {d : D} {Q : VK} {v : V} (p : Post b m F H (.ok d w) (Rep b.z) Q) (wf : Wf b.z m F w H) (r : Rep b.z m F H v d) : Q v H := p m F H v (Fm.refl _ _ _) wf r

theorem od_add : OpR X (binaryOp .Add) (rOp b addD) := by
  intro pins s σ H x y v u Q I rx ry ⟨m, F, w, dx, dy, wf, hx, hy, p⟩
  obtain ⟨d, e, p⟩ := p.lift1
  unfold addD at e
  split at e
  · cases e
    exact op_add pins s σ H x y v u Q I rx ry ⟨_, _, hx.int, hy.int, p.here wf (.int _)⟩
  · split at e
    · rename_i hl
      cases e
      obtain ⟨a, vs, rfl, h1, h2, h3⟩ := hx.tuple
      obtain ⟨c, us, rfl, k1, k2, k3⟩ := hy.tuple
      have l1 := h2.length
      have l2 := k2.length
      refine op_catA pins s σ H _ _ v u Q I rx ry ⟨a, c, vs, us, rfl, rfl, .inl (.inl h1), .inl (.inl k1), by rw [l1, l2, ← lim_eq]; exact hl, fun hn => ?_, fun _ hn => ?_, fun _ _ => p.tup wf (h2.append k2)⟩
      · subst hn
        cases h2
        exact p.here wf (.tup k3 k1 k2)
      · subst hn
        cases k2
        rw [List.append_nil] at p
        exact p.here wf (.tup h3 h1 h2)
    · cases e
  · split at e
    · rename_i hl
      cases e
      obtain ⟨a, vs, rfl, h1, h2⟩ := hx.list
      obtain ⟨c, us, rfl, k1, k2⟩ := hy.list
      exact op_cat pins s σ H _ _ v u Q I rx ry ⟨a, c, vs, us, rfl, rfl, h1, k1, by rw [h2.length, k2.length, ← lim_eq]; exact hl, p.lst wf (h2.append k2)⟩
    · cases e
  · cases e
theorem od_sub : OpR X (binaryOp .Sub) (rOp b subD) := by
  intro pins s σ H x y v u Q I rx ry ⟨m, F, w, dx, dy, wf, hx, hy, p⟩
  obtain ⟨d, e, p⟩ := p.lift1
  unfold subD at e
  split at e
  · cases e
    exact op_sub pins s σ H x y v u Q I rx ry ⟨_, _, hx.int, hy.int, p.here wf (.int _)⟩
  · cases e
theorem od_mul : OpR X (binaryOp .Mult) (rOp b mulD) := by
  intro pins s σ H x y v u Q I rx ry ⟨m, F, w, dx, dy, wf, hx, hy, p⟩
  obtain ⟨d, e, p⟩ := p.lift1
  unfold mulD at e
  split at e
  · split at e
    · rename_i hm
      cases e
      refine op_mul pins s σ H x y v u Q I rx ry ⟨_, _, hx.int, hy.int, ?_, p.here wf (.int _)⟩
      unfold mulOk at hm
      simp only [Bool.or_eq_true, Bool.and_eq_true, decide_eq_true_eq] at hm
      exact hm
    · cases e
  · split at e
    · rename_i hm
      cases e
      obtain ⟨a, vs, rfl, h1, h2, h3⟩ := hx.tuple
      have l1 := h2.length
      refine op_repT pins s σ H _ y v u Q I rx ry ⟨a, _, vs, rfl, hy.int, .inl (.inl h1), fun hn => hm.1 ?_, hm.2.1, hm.2.2.1, by rw [l1]; exact hm.2.2.2, p.tup wf (h2.rep _)⟩
      subst hn
      cases h2
      rfl
    · cases e
  · split at e
    · rename_i hm
      cases e
      obtain ⟨a, vs, rfl, h1, h2⟩ := hx.list
      have l1 := h2.length
      exact op_rep pins s σ H _ y v u Q I rx ry ⟨a, _, vs, rfl, hy.int, h1, by omega, by omega, by rw [l1, ← lim_eq]; exact hm.2.2, p.lst wf (h2.rep _)⟩
    · cases e
  · cases e
theorem od_fdiv : OpR X (binaryOp .FloorDiv) (rOp b fdivD) := by
  intro pins s σ H x y v u Q I rx ry ⟨m, F, w, dx, dy, wf, hx, hy, p⟩
  obtain ⟨d, e, p⟩ := p.lift1
  unfold fdivD at e
  split at e
  · split at e
    · rename_i hm
      cases e
      exact op_fdiv pins s σ H x y v u Q I rx ry ⟨_, _, hx.int, hy.int, hm, p.here wf (.int _)⟩
    · cases e
  · cases e
theorem od_mod : OpR X (binaryOp .Mod) (rOp b modD) := by
  intro pins s σ H x y v u Q I rx ry ⟨m, F, w, dx, dy, wf, hx, hy, p⟩
  obtain ⟨d, e, p⟩ := p.lift1
  unfold modD at e
  split at e
  · split at e
    · rename_i hm
      cases e
      exact op_mod pins s σ H x y v u Q I rx ry ⟨_, _, hx.int, hy.int, hm, p.here wf (.int _)⟩
    · cases e
  · cases e
theorem od_le : OpR X (compareOp .LtE) (rOp b leD) := by
  intro pins s σ H x y v u Q I rx ry ⟨m, F, w, dx, dy, wf, hx, hy, p⟩
  obtain ⟨d, e, p⟩ := p.lift1
  unfold leD at e
  split at e
  · cases e
    exact op_le pins s σ H x y v u Q I rx ry ⟨_, _, hx.int, hy.int, p.here wf (.bl _)⟩
  · cases e
theorem od_gt : OpR X (compareOp .Gt) (rOp b gtD) := by
  intro pins s σ H x y v u Q I rx ry ⟨m, F, w, dx, dy, wf, hx, hy, p⟩
  obtain ⟨d, e, p⟩ := p.lift1
  unfold gtD at e
  split at e
  · cases e
    exact op_gt pins s σ H x y v u Q I rx ry ⟨_, _, hx.int, hy.int, p.here wf (.bl _)⟩
  · cases e
theorem od_ge : OpR X (compareOp .GtE) (rOp b geD) := by
  intro pins s σ H x y v u Q I rx ry ⟨m, F, w, dx, dy, wf, hx, hy, p⟩
  obtain ⟨d, e, p⟩ := p.lift1
  unfold geD at e
  split at e
  · cases e
    exact op_ge pins s σ H x y v u Q I rx ry ⟨_, _, hx.int, hy.int, p.here wf (.bl _)⟩
  · cases e
theorem od_lt (hu : X.A.units + 64 < cLine) : OpR X (compareOp .Lt) (rOp b fun x y => (ltD x y).map .bool) := by
  intro pins s σ H x y v u Q I rx ry ⟨m, F, w, dx, dy, wf, hx, hy, p⟩
  obtain ⟨d, e, p⟩ := p.lift1
  dsimp only at e
  unfold ltD at e
  split at e
  · rename_i hm
    simp only [Bool.and_eq_true] at hm
    obtain ⟨⟨⟨h1, h2⟩, h3⟩, h4⟩ := hm
    cases e
    obtain ⟨as, r1⟩ := Dp.reads I dx x v (hx.dp h1) rx
    obtain ⟨bs, r2⟩ := Dp.reads I dy y u (hy.dp h2) ry
    have hn : dx ≠ .none := fun q => by subst q; simp [notNone] at h4
    exact PySem.W.rcLt_alike dx dy X.A s v u as bs r1 r2 h3 hn (SeqAt.room_of_shaped h1 hu) _ _ _ _ ⟨.bl _, H, I, rfl, p.here wf (.bl _)⟩
  · cases e
theorem od_eq (hu : X.A.units + 64 < cLine) : OpR X (compareOp .Eq) (rOp b fun x y => (eqD x y).map .bool) := by
  intro pins s σ H x y v u Q I rx ry ⟨m, F, w, dx, dy, wf, hx, hy, p⟩
  obtain ⟨d, e, p⟩ := p.lift1
  dsimp only at e
  unfold eqD at e
  split at e
  · rename_i hm
    simp only [Bool.and_eq_true] at hm
    cases e
    exact op_eqD hu pins s σ H x y v u Q I rx ry ⟨dx, dy, hx.dp hm.1, hy.dp hm.2, hm.1, hm.2, p.here wf (.bl _)⟩
  · cases e
theorem od_ne (hu : X.A.units + 64 < cLine) : OpR X (compareOp .NotEq) (rOp b fun x y => (eqD x y).map fun c => .bool (!c)) := by
  intro pins s σ H x y v u Q I rx ry ⟨m, F, w, dx, dy, wf, hx, hy, p⟩
  obtain ⟨d, e, p⟩ := p.lift1
  dsimp only at e
  unfold eqD at e
  split at e
  · rename_i hm
    simp only [Bool.and_eq_true] at hm
    cases e
    exact op_neD hu pins s σ H x y v u Q I rx ry ⟨dx, dy, hx.dp hm.1, hy.dp hm.2, hm.1, hm.2, p.here wf (.bl _)⟩
  · cases e
theorem od_isN : OpR X (compareOp .Is) (rOp b fun x y => (isND x y).map .bool) := by
  intro pins s σ H x y v u Q I rx ry ⟨m, F, w, dx, dy, wf, hx, hy, p⟩
  obtain ⟨d, e, p⟩ := p.lift1
  have key : ∀ (c : Bool), decide (x = V.non) = c → y = .non → d = .bool c → OpR X (compareOp .Is) (fun x y H Q => y = .non ∧ Q (.bl (decide (x = .non))) H) → wpAny (model X.prog X.w) X.A (compareOp .Is v u) (EP X pins σ Q) X.xe s := fun c hc hyn hd rule => by
    subst hd
    exact rule pins s σ H x y v u Q I rx ry ⟨hyn, by rw [hc]; exact p.here wf (.bl _)⟩
  dsimp only at e
  cases dy with
  | none =>
    by_cases hdx : dx = .none
    · subst hdx
      cases e
      exact key true (by rw [hx.non]; rfl) hy.non rfl op_isN
    · have hi : isND dx .none = some false := by
        cases dx with
        | none => exact absurd rfl hdx
        | _ => rfl
      rw [hi] at e
      cases e
      refine key false (decide_eq_false fun q => ?_) hy.non rfl op_isN
      subst q
      rcases hx with h | ⟨_, _, _, q, _⟩ | ⟨_, _, _, q, _⟩
      · cases h
        exact hdx rfl
      · cases q
      · cases q
  | _ => 
    cases dx <;> cases e
theorem od_notN : OpR X (compareOp .IsNot) (rOp b fun x y => (isND x y).map fun c => .bool (!c)) := by
  intro pins s σ H x y v u Q I rx ry ⟨m, F, w, dx, dy, wf, hx, hy, p⟩
  obtain ⟨d, e, p⟩ := p.lift1
  have key : ∀ (c : Bool), decide (x = V.non) = c → y = .non → d = .bool (!c) → OpR X (compareOp .IsNot) (fun x y H Q => y = .non ∧ Q (.bl (!decide (x = .non))) H) → wpAny (model X.prog X.w) X.A (compareOp .IsNot v u) (EP X pins σ Q) X.xe s := fun c hc hyn hd rule => by
    subst hd
    exact rule pins s σ H x y v u Q I rx ry ⟨hyn, by rw [hc]; exact p.here wf (.bl _)⟩
  dsimp only at e
  cases dy with
  | none =>
    by_cases hdx : dx = .none
    · subst hdx
      cases e
      exact key true (by rw [hx.non]; rfl) hy.non rfl op_notN
    · have hi : isND dx .none = some false := by
        cases dx with
        | none => exact absurd rfl hdx
        | _ => rfl
      rw [hi] at e
      cases e
      refine key false (decide_eq_false fun q => ?_) hy.non rfl op_notN
      subst q
      rcases hx with h | ⟨_, _, _, q, _⟩ | ⟨_, _, _, q, _⟩
      · cases h
        exact hdx rfl
      · cases q
      · cases q
  | _ => 
    cases dx <;> cases e
end
end Ev

set_option Elab.async false
set_option linter.all false
set_option maxRecDepth 100000
set_option autoImplicit false
/-! EvDN: dicts whose keys are tuples of any depth. -/
namespace Ev
open PySem PySem.Spec PyProof.Rows L2
/-! ### keys -/
section
variable {P : Program} {w : World} {z : Zt} {m : Mu} {F : Fz} {H : Hp} {h : Heap}
mutual
theorem Rep.nest (ok : HOk P w H h) : ∀ {v : V} {d : D}, Rep z m F H v d → hkOk d = true → ∀ u, RelV v u → NestedIs h (nkOf d) u
  | _, _, .non, _, u, r => by cases (show u = .none from r); exact .none
  | _, _, .bl b, _, u, r => by cases (show u = .bool b from r); exact .bool rfl
  | _, _, .int i, _, u, r => by obtain ⟨t, e⟩ := (show ∃ t, u = Value.int i t from r); subst e; exact .int i t
  | _, _, .str x, _, u, r => by obtain ⟨t, e⟩ := (show ∃ t, u = Value.str x t from r); subst e; exact .text x t
  | _, _, .tup (a := a) h1 h2 h3, hk, u, r => by
    cases (show u = .ref a from r)
    obtain ⟨_, its, rv, o, e1, e2, n, e3⟩ := (show ObjOk P w H h a (.tup _) from ok a _ h2)
    exact .tup e1 e2 e3 (RepAll.nest ok h3 (by rw [hkOk] at hk; exact hk) _ (by simpa using rv))
  | _, _, .lst _ _ _, hk, _, _ => by simp [hkOk] at hk
  | _, _, .dK _ _ _, hk, _, _ => by simp [hkOk] at hk
  | _, _, .fn n, hk, _, _ => by simp [fnD, hkOk] at hk
  | _, _, .scr, hk, _, _ => by simp [scrD, hkOk] at hk
  | _, _, .ob _, hk, _, _ => by simp [obD, hkOk] at hk
theorem RepAll.nest (ok : HOk P w H h) : ∀ {vs : List V} {ds : List D}, RepAll z m F H vs ds → hkAll ds = true → ∀ us, Vals vs us → NestedAll h (nksOf ds) us
  | _, _, .nil, _, us, r => by cases r; exact .nil
  | _, _, .cons h1 h2, hk, us, r => by
    rw [hkAll, Bool.and_eq_true] at hk
    cases r with
    | cons r1 r2 => exact .cons (Rep.nest ok h1 hk.1 _ r1) (RepAll.nest ok h2 hk.2 _ r2)
end
end
mutual
theorem nk_depth : ∀ d : D, (nkOf d).depth ≤ d.depth
  | .none => Nat.zero_le _
  | .bool _ => Nat.zero_le _
  | .int _ => Nat.zero_le _
  | .str _ => Nat.zero_le _
  | .list _ => Nat.zero_le _
  | .dict _ => Nat.zero_le _
  | .tuple xs => by
    have := nks_depth xs
    show NestedKey.depthAll (nksOf xs) + 1 ≤ PyData.depthAll xs + 1
    omega
theorem nks_depth : ∀ xs : List D, NestedKey.depthAll (nksOf xs) ≤ PyData.depthAll xs
  | [] => Nat.zero_le _
  | x :: xs => by
    have h1 := nk_depth x
    have h2 := nks_depth xs
    show max (nkOf x).depth (NestedKey.depthAll (nksOf xs)) ≤ max x.depth (PyData.depthAll xs)
    omega
end
mutual
theorem eqv_hk : ∀ (x y : D), hkOk x = true → hkOk y = true → PyData.eqv x y = NestedKey.beq (nkOf x) (nkOf y)
  | .none, y, _, hy => by cases y <;> simp [hkOk] at hy <;> simp [PyData.eqv, nkOf, NestedKey.beq]
  | .bool a, y, _, hy => by cases y <;> simp [hkOk] at hy <;> cases a <;> simp [PyData.eqv, nkOf, NestedKey.beq] <;> (first | rfl | (rename_i b; cases b <;> rfl) | (rename_i i; rw [Bool.eq_iff_iff]; simp; try exact eq_comm))
  | .int i, y, _, hy => by cases y <;> simp [hkOk] at hy <;> simp [PyData.eqv, nkOf, NestedKey.beq] <;> (first | rfl | (rename_i b; rw [Bool.eq_iff_iff]; simp))
  | .str a, y, _, hy => by cases y <;> simp [hkOk] at hy <;> simp [PyData.eqv, nkOf, NestedKey.beq] <;> (first | rfl | (rw [Bool.eq_iff_iff]; simp))
  | .tuple xs, y, hx, hy => by
    cases y with
    | tuple ys =>
      rw [PyData.eqv, nkOf, nkOf, NestedKey.beq]
      exact eqvAll_hk xs ys (by rw [hkOk] at hx; exact hx) (by rw [hkOk] at hy; exact hy)
    | none => simp [PyData.eqv, nkOf, NestedKey.beq]
    | bool _ => simp [PyData.eqv, nkOf, NestedKey.beq]
    | int _ => simp [PyData.eqv, nkOf, NestedKey.beq]
    | str _ => simp [PyData.eqv, nkOf, NestedKey.beq]
    | list _ => simp [hkOk] at hy
    | dict _ => simp [hkOk] at hy
  | .list _, _, hx, _ => by simp [hkOk] at hx
  | .dict _, _, hx, _ => by simp [hkOk] at hx
theorem eqvAll_hk : ∀ (xs ys : List D), hkAll xs = true → hkAll ys = true → PyData.eqvAll xs ys = NestedKey.beqAll (nksOf xs) (nksOf ys)
  | [], [], _, _ => by simp [PyData.eqvAll, nksOf, NestedKey.beqAll]
  | [], _ :: _, _, _ => by simp [PyData.eqvAll, nksOf, NestedKey.beqAll]
  | _ :: _, [], _, _ => by simp [PyData.eqvAll, nksOf, NestedKey.beqAll]
  | x :: xs, y :: ys, hx, hy => by
    rw [hkAll, Bool.and_eq_true] at hx hy
    rw [PyData.eqvAll, nksOf, nksOf, NestedKey.beqAll, eqv_hk x y hx.1 hy.1, eqvAll_hk xs ys hx.2 hy.2]
end
theorem tk_split {k : D} (h : tkOk k = true) : (∃ xs, k = .tuple xs) ∧ hkOk k = true ∧ k.depth ≤ 8 := by
  simp only [tkOk, Bool.and_eq_true, decide_eq_true_eq] at h
  refine ⟨?_, h.1.2, h.2⟩
  cases k <;> first | exact ⟨_, rfl⟩ | (exact absurd h.1.1 (by simp [isTup]))
theorem eqv_tk {x y : D} (hx : tkOk x = true) (hy : tkOk y = true) : PyData.eqv x y = decide (nkOf x = nkOf y) := by
  rw [eqv_hk x y (tk_split hx).2.1 (tk_split hy).2.1, NestedKey.decide_eq]
section
variable {P : Program} {w : World} {z : Zt} {m : Mu} {F : Fz} {H : Hp} {h : Heap}
/-- a tuple that is a key -/
theorem RepR.tk (ok : HOk P w H h) {v : V} {k : D} (r : RepR z m F H v k) (hk : tkOk k = true) : ∃ a, v = .ref a ∧ (nestedKind P w).is h (nkOf k) a ∧ Rep z m F H (.ref a) k := by
  obtain ⟨⟨xs, rfl⟩, h1, h2⟩ := tk_split hk
  obtain ⟨a, vs, rfl, e1, e2, e3⟩ := r.tuple
  have r' : Rep z m F H (.ref a) (.tuple xs) := .tup e3 e1 e2
  exact ⟨a, rfl, ⟨Rep.nest ok r' h1 _ rfl, Nat.le_trans (nk_depth _) h2⟩, r'⟩
/-! ### the dict as it lies -/
abbrev RelN (z : Zt) (m : Mu) (F : Fz) (H : Hp) : List (NestedKey × Addr × Value) → List (D × D) → Prop := Paired fun x p => tkOk p.1 = true ∧ x.1 = nkOf p.1 ∧ Rep z m F H (.ref x.2.1) p.1 ∧ ∃ v, RelV v x.2.2 ∧ Rep z m F H v p.2
structure DV (P : Program) (w : World) (z : Zt) (m : Mu) (F : Fz) (H : Hp) (h : Heap) (a : Addr) (ds : List (D × D)) (xs : List (NestedKey × Addr × Value)) : Prop where
  dd : h.DictOfH (nestedKind P w) a xs
  sm : (a == sysModules) = false
  sz : xs.length ≤ sizeLine
  rel : RelN z m F H xs ds
theorem RelN.of : ∀ {ks : List (NestedKey × Addr × V)} {xs : List (NestedKey × Addr × Value)} {ds : List (D × D)}, PrN ks xs → RepKN z m F H ks ds → RelN z m F H xs ds
  | _, _, _, .nil, .nil => .nil
  | _, _, _, .cons p ps, .cons h0 h1 h2 h3 => by
    obtain ⟨e1, e2, e3⟩ := p
    refine .cons ⟨h0, e1.symm, ?_, _, e3, h2⟩ (RelN.of ps h3)
    rw [← e2]
    exact h1
theorem RelN.back : ∀ {xs : List (NestedKey × Addr × Value)} {ds : List (D × D)}, RelN z m F H xs ds → ∃ ks, PrN ks xs ∧ RepKN z m F H ks ds
  | _, _, .nil => ⟨[], .nil, .nil⟩
  | _, _, .cons p ps => by
    obtain ⟨h0, e1, h1, v, hv, h2⟩ := p
    obtain ⟨ks, q1, q2⟩ := RelN.back ps
    exact ⟨_, .cons ⟨e1.symm, rfl, hv⟩ q1, .cons h0 h1 h2 q2⟩
theorem RelN.is (ok : HOk P w H h) : ∀ {xs : List (NestedKey × Addr × Value)} {ds : List (D × D)}, RelN z m F H xs ds → ∀ x ∈ xs, (nestedKind P w).is h x.1 x.2.1
  | _, _, .cons p ps, x, hx => by
    rcases List.mem_cons.mp hx with e | hx
    · subst e
      obtain ⟨h0, e1, h1, _⟩ := p
      obtain ⟨_, g1, g2⟩ := tk_split h0
      rw [e1]
      exact ⟨Rep.nest ok h1 g1 _ rfl, Nat.le_trans (nk_depth _) g2⟩
    · exact RelN.is ok ps x hx
theorem RelN.len {xs : List (NestedKey × Addr × Value)} {ds : List (D × D)} (r : RelN z m F H xs ds) : xs.length = ds.length := Paired.length r
theorem RelN.mono {m' : Mu} {F' : Fz} {H' : Hp} (hk : Kp F H H') (hg : ∀ a, F a → F' a) (hm : ∀ n a, mainA m n = some a → mainA m' n = some a) {xs : List (NestedKey × Addr × Value)} {ds : List (D × D)} (r : RelN z m F H xs ds) : RelN z m' F' H' xs ds :=
  Paired.mapP r fun _ _ ⟨h0, e1, h1, v, hv, h2⟩ => ⟨h0, e1, h1.mono hk hg hm, v, hv, h2.mono hk hg hm⟩
/-- an object that holds the table is so described -/
theorem dn_ok {a : Addr} {ks : List (NestedKey × Addr × V)} {xs : List (NestedKey × Addr × Value)} (pr : PrN ks xs) (sz : xs.length ≤ sizeLine) (sm : (a == sysModules) = false) (dd : h.DictOfH (nestedKind P w) a xs) : ObjOk P w H h a (DN w a ks) := by
  obtain ⟨o, es, ep, e1, e2, e3, e4, e5, e6⟩ := dd
  have hl : ks.length = xs.length := Paired.length pr
  refine ⟨⟨xs, pr, by rw [hl]; exact sz, sm, o, es, ep, e1, e2, e3, e4, e6⟩, ⟨o, e1⟩, fun h1 h2 ⟨xs, q1, q2, q3, o, es, ep, q4, q5⟩ k => ⟨xs, q1, q2, q3, o, es, ep, k o q4, q5⟩⟩
theorem dn_view {a : Addr} {ks : List (NestedKey × Addr × V)} {ds : List (D × D)} (ok : HOk P w H h) (hw : z.wd = w) (e : Rd H a (DN z.wd a ks)) (r : RepKN z m F H ks ds) : ∃ xs, DV P w z m F H h a ds xs := by
  obtain ⟨⟨xs, pr, sz, sm, o, es, ep, e1, e2, e3, e4, e6⟩, _, _⟩ := (show ObjOk P w H h a (DN z.wd a ks) from e.ok ok)
  have rel := RelN.of pr r
  have hl : ks.length = xs.length := Paired.length pr
  refine ⟨xs, ⟨o, es, ep, e1, e2, e3, ?_, RelN.is ok rel, e6⟩, sm, by rw [← hl]; exact sz, rel⟩
  rw [e4, hw]
  rfl
theorem dk_nil {a : Addr} (ok : HOk P w H h) (e : Rd H a (.dK [])) : DV P w z m F H h a [] [] := by
  obtain ⟨sz, sm, vs, kv, o, es, ep, e1, e2, e3, e4, e5, e6⟩ := (show ObjOk P w H h a (.dK []) from e.ok ok)
  cases kv
  have hz : es.toList = [] := List.length_eq_zero_iff.mp e5.length
  exact ⟨⟨o, es, ep, e1, e2, e3, hz, (fun x hx => by simp at hx), List.nodup_nil⟩, sm, Nat.zero_le _, .nil⟩
theorem nil_dk {a : Addr} (sm : (a == sysModules) = false) (dd : h.DictOfH (nestedKind P w) a []) : ObjOk P w H h a (.dK []) := by
  obtain ⟨o, es, ep, e1, e2, e3, e4, e5, e6⟩ := dd
  have hz : es = #[] := by
    have : es.toList = [] := e4
    exact Array.toList_inj.mp (by simpa using this)
  subst hz
  exact ⟨Nat.zero_le _, sm, [], .nil, o, #[], ep, e1, e2, e3, fun x hx => by simp at hx, .nil, List.nodup_nil⟩
/-- a dict with such keys, read -/
theorem RepD.view {a : Addr} {o : HO} {ds : List (D × D)} (r : RepD z m F H a o ds) (hk : (ds.all fun p => tkOk p.1) = true) (ok : HOk P w H h) (hw : z.wd = w) (e : Rd H a o) : ∃ xs, DV P w z m F H h a ds xs := by
  cases r with
  | k r =>
    cases r with
    | nil => exact ⟨[], dk_nil ok e⟩
    | @cons k v d kvs ds h t =>
      exfalso
      rw [List.all_cons, Bool.and_eq_true] at hk
      have q := tk_key hk.1
      cases k <;> simp [keyD, keyOk] at q
  | n r hn => exact dn_view ok hw e r
theorem RepR.view {v : V} {ds : List (D × D)} (r : RepR z m F H v (.dict ds)) (hk : (ds.all fun p => tkOk p.1) = true) (ok : HOk P w H h) (hw : z.wd = w) : ∃ a xs, v = .ref a ∧ DV P w z m F H h a ds xs := by
  rcases r with r | ⟨a, vs, _, e, q, h1, h2, _⟩ | ⟨a, o, _, e, q, h1, h2, _⟩
  · generalize hd : PyData.dict ds = d at r
    cases r with
    | @dK a od o ds' h1 h2 h3 =>
      cases hd
      obtain ⟨xs, q⟩ := h3.view hk ok hw (.inr ⟨od, h2⟩)
      exact ⟨a, xs, rfl, q⟩
    | fn n => cases hd; exact absurd hk (by simp [tkOk, isTup])
    | scr => cases hd; exact absurd hk (by simp [tkOk, isTup])
    | ob h => cases hd; exact absurd hk (by simp [tkOk, isTup])
    | _ => cases hd
  · cases q
  · cases q
    obtain ⟨xs, q⟩ := h2.view hk ok hw (.inl h1)
    exact ⟨a, xs, e, q⟩
/-- .. as the object that it is after a write -/
theorem RelN.obj {a : Addr} {xs : List (NestedKey × Addr × Value)} {ds : List (D × D)} (hw : z.wd = w) (rel : RelN z m F H xs ds) (sz : xs.length ≤ sizeLine) (sm : (a == sysModules) = false) (dd : h.DictOfH (nestedKind P w) a xs) : ∃ o, RepD z m F H a o ds ∧ ∀ H', ObjOk P w H' h a o := by
  cases ds with
  | nil =>
    cases rel
    exact ⟨.dK [], .k .nil, fun H' => nil_dk sm dd⟩
  | cons p ds =>
    obtain ⟨ks, pr, r⟩ := rel.back
    refine ⟨DN z.wd a ks, .n r (by simp), fun H' => ?_⟩
    rw [hw]
    exact dn_ok pr sz sm dd
/-! ### looking up, putting, dropping -/
theorem RelN.look {k : D} (hk : tkOk k = true) : ∀ {xs : List (NestedKey × Addr × Value)} {ds : List (D × D)}, RelN z m F H xs ds → (∀ p, atKey xs (nkOf k) = some p → ∃ d v, lookD ds k = some d ∧ RelV v p.2 ∧ Rep z m F H v d) ∧ (atKey xs (nkOf k) = none → lookD ds k = none)
  | _, _, .nil => ⟨fun p e => by simp [atKey] at e, fun _ => rfl⟩
  | _, _, .cons (a := x) (b := q) (l₁ := xs) (l₂ := ds) h t => by
    obtain ⟨h0, e1, h1, v, hv, h2⟩ := h
    obtain ⟨ih1, ih2⟩ := RelN.look hk t
    have ee : PyData.eqv q.1 k = decide (x.1 = nkOf k) := by rw [eqv_tk h0 hk, e1]
    by_cases hx : x.1 = nkOf k
    · have a1 : atKey (x :: xs) (nkOf k) = some x.2 := by simp [atKey, List.find?_cons, hx]
      have a2 : lookD (q :: ds) k = some q.2 := by
        show (if PyData.eqv q.1 k = true then some q.2 else lookD ds k) = _
        rw [ee, decide_eq_true hx, if_pos rfl]
      rw [a1, a2]
      exact ⟨fun p e => by cases e; exact ⟨_, v, rfl, hv, h2⟩, fun e => by cases e⟩
    · have a1 : atKey (x :: xs) (nkOf k) = atKey xs (nkOf k) := by simp [atKey, List.find?_cons, hx]
      have a2 : lookD (q :: ds) k = lookD ds k := by
        show (if PyData.eqv q.1 k = true then some q.2 else lookD ds k) = _
        rw [ee, decide_eq_false hx, if_neg (by decide)]
      rw [a1, a2]
      exact ⟨ih1, ih2⟩
theorem look_any {ds : List (D × D)} {k : D} : (ds.any fun p => PyData.eqv p.1 k) = (lookD ds k).isSome := by
  induction ds with
  | nil => rfl
  | cons p ds ih =>
    rw [List.any_cons, ih]
    show _ = (if PyData.eqv p.1 k = true then some p.2 else lookD ds k).isSome
    cases PyData.eqv p.1 k <;> simp
theorem RelN.some_eq {k : D} (hk : tkOk k = true) {xs : List (NestedKey × Addr × Value)} {ds : List (D × D)} (r : RelN z m F H xs ds) : (atKey xs (nkOf k)).isSome = (lookD ds k).isSome := by
  obtain ⟨h1, h2⟩ := RelN.look hk r
  cases e : atKey xs (nkOf k) with
  | none => rw [h2 e]; rfl
  | some p =>
    obtain ⟨d, v, e', _⟩ := h1 p e
    rw [e']
    rfl
theorem RelN.repl {k : D} (hk : tkOk k = true) {v : V} {u : Value} {d : D} (hv : RelV v u) (r : Rep z m F H v d) : ∀ {xs : List (NestedKey × Addr × Value)} {ds : List (D × D)}, RelN z m F H xs ds → RelN z m F H (xs.map (putAt (nkOf k) u)) (ds.map fun p => if PyData.eqv p.1 k then (p.1, d) else p)
  | _, _, .nil => .nil
  | _, _, .cons (a := x) (b := q) h t => by
    obtain ⟨h0, e1, h1, v', hv', h2⟩ := h
    have ee : PyData.eqv q.1 k = decide (x.1 = nkOf k) := by rw [eqv_tk h0 hk, e1]
    rw [List.map_cons, List.map_cons]
    refine .cons ?_ (RelN.repl hk hv r t)
    unfold putAt
    by_cases hx : x.1 = nkOf k
    · rw [if_pos hx, ee, decide_eq_true hx, if_pos rfl]
      exact ⟨h0, e1, h1, v, hv, r⟩
    · rw [if_neg hx, ee, decide_eq_false hx, if_neg (by decide)]
      exact ⟨h0, e1, h1, v', hv', h2⟩
theorem RelN.put {k : D} (hk : tkOk k = true) {a : Addr} {v : V} {u : Value} {d : D} (ha : Rep z m F H (.ref a) k) (hv : RelV v u) (r : Rep z m F H v d) {xs : List (NestedKey × Addr × Value)} {ds : List (D × D)} (h : RelN z m F H xs ds) : RelN z m F H (storedH xs (nkOf k) a u) (putD k d ds) := by
  unfold storedH putD
  rw [look_any, ← h.some_eq hk]
  by_cases q : (atKey xs (nkOf k)).isSome = true
  · rw [if_pos q, if_pos q]
    exact RelN.repl hk hv r h
  · rw [if_neg q, if_neg q]
    exact Paired.snoc h ⟨hk, rfl, ha, v, hv, r⟩
theorem RelN.drop {k : D} (hk : tkOk k = true) : ∀ {xs : List (NestedKey × Addr × Value)} {ds : List (D × D)}, RelN z m F H xs ds → RelN z m F H (withoutH xs (nkOf k)) (dropD k ds)
  | _, _, .nil => .nil
  | _, _, .cons (a := x) (b := q) h t => by
    have ih := RelN.drop hk t
    obtain ⟨h0, e1, h1⟩ := h
    have ee : PyData.eqv q.1 k = decide (x.1 = nkOf k) := by rw [eqv_tk h0 hk, e1]
    unfold withoutH dropD at ih ⊢
    rw [List.filter_cons, List.filter_cons, ee]
    by_cases hx : x.1 = nkOf k
    · simp only [hx, ne_eq, not_true, decide_false, decide_true, Bool.not_true, Bool.false_eq_true, if_false]
      exact ih
    · simp only [hx, ne_eq, not_false_iff, decide_false, decide_true, Bool.not_false, if_true]
      exact .cons ⟨h0, e1, h1⟩ ih
theorem putD_all {k v : D} {ds : List (D × D)} (hk : tkOk k = true) (h : (ds.all fun p => tkOk p.1) = true) : ((putD k v ds).all fun p => tkOk p.1) = true := by
  rw [List.all_eq_true] at h ⊢
  intro p hp
  unfold putD at hp
  split at hp
  · obtain ⟨q, hq, rfl⟩ := List.mem_map.mp hp
    split
    · exact h q hq
    · exact h q hq
  · rcases List.mem_append.mp hp with hp | hp
    · exact h p hp
    · rw [List.mem_singleton] at hp
      subst hp
      exact hk
end
end Ev

set_option Elab.async false
set_option linter.all false
set_option maxRecDepth 100000
set_option autoImplicit false
/-! EvDN2: the dicts' operations in the model. -/
namespace Ev
open PySem PySem.Spec PyProof.Rows L2
section
variable {prog : Program} {w : World} {K : Type} [DecidableEq K] {knd : HeapKind prog w K} {A : Around} {E : Value → Shared → Prop} {s : Shared}
theorem truthy_dictH {d : Addr} {xs : List (K × Addr × Value)} {Q : Bool → Shared → Prop} (hd : (d == sysModules) = false) (hm : s.heap.DictOfH knd d xs) (hfit : (xs.length : Int) < 2 ^ 63)
    (h : Q (!xs.isEmpty) { s with toks := s.toks + 1 + 1 }) : wpAny (model prog w) A (truthy (.ref d)) Q E s := by
  have hne : ((xs.length : Int) != 0) = !xs.isEmpty := by cases xs <;> simp <;> omega
  have key : wpAny (model prog w) A (runValue (.builtin "len" ⟨[.ref d], []⟩)) (fun r s' => r = .int xs.length (s.toks + 1) ∧ Q (!xs.isEmpty) s') E s := by
    refine wpAny_runValue (codeAny_builtin entry_len ?_)
    rw [Around.under_plainId plain_len _]
    exact wpAny_mono (wpAny_len_body_dictH (Q := fun r s' => r = .int xs.length (s.toks + 1) ∧ Q (!xs.isEmpty) s') hd hm hfit ⟨rfl, h⟩)
      (fun fin s' hq => by obtain ⟨r, rfl, hq⟩ := hq; exact hq) fun _ _ e => e
  unfold truthy
  first
    | refine wpAny_bind (wpAny_callSpecial?_none (name := Str.ofString "__bool__") hm.typeIs noBool_dict ?_)
    | refine wpAny_bind (wpAny_pure (wpAny_bind (wpAny_callSpecial?_none (name := Str.ofString "__bool__") hm.typeIs noBool_dict ?_)))
  first
    | refine wpAny_bind (wpAny_specialOf (name := Str.ofString "__len__") hm.typeIs F.slot_dict_len.lookup ?_)
    | refine wpAny_bind (wpAny_pure (wpAny_bind (wpAny_specialOf (name := Str.ofString "__len__") hm.typeIs F.slot_dict_len.lookup ?_)))
  first
    | exact wpAny_bind (wpAny_mono key (fun r s' hq => by obtain ⟨rfl, hq⟩ := hq; exact wpAny_pure (hne ▸ hq)) fun _ _ e => e)
    | exact wpAny_bind (wpAny_pure (wpAny_bind (wpAny_mono key (fun r s' hq => by obtain ⟨rfl, hq⟩ := hq; exact wpAny_pure (hne ▸ hq)) fun _ _ e => e)))
end
section
variable {X : Cx} {z : Zt} {m : Mu} {F : Fz} {pins : List (Addr × Obj)} {σ : L2.St} {H : Hp} {s : Shared} {E : Value → Shared → Prop} {ds : List (D × D)}
theorem roomN (hu : X.A.units + 10 < cLine) : (nestedKind X.prog X.w).room X.A.in1 := by
  show X.A.units + 1 + 8 < cLine
  omega
theorem n_in (hu : X.A.units + 10 < cLine) (hw : z.wd = X.w) (I : Inv X pins σ H s) {x y : V} {v u : Value} {k : D} (rx : RelV x v) (ry : RelV y u) (hx : RepR z m F H x k) (hy : RepR z m F H y (.dict ds)) (hk : tkOk k = true) (hd : (ds.all fun p => tkOk p.1) = true) {Q : Value → Shared → Prop} :
    ((∀ s', Inv X pins σ H s' → Q (.bool (lookD ds k).isSome) s') → wpAny (model X.prog X.w) X.A (compareOp .In v u) Q E s) ∧ ((∀ s', Inv X pins σ H s' → Q (.bool (!(lookD ds k).isSome)) s') → wpAny (model X.prog X.w) X.A (compareOp .NotIn v u) Q E s) := by
  obtain ⟨a, rfl, is, _⟩ := hx.tk I.hok hk
  obtain ⟨d, xs, rfl, dv⟩ := hy.view hd I.hok hw
  cases rx
  cases ry
  have e := dv.rel.some_eq hk
  refine ⟨fun q => wpAny_in_heap (roomN hu) is dv.sm dv.dd ?_, fun q => wpAny_notIn_heap (roomN hu) is dv.sm dv.dd ?_⟩
  · rw [e]
    exact q _ (I.tok _)
  · rw [e]
    exact q _ (I.tok _)
theorem n_get (hu : X.A.units + 10 < cLine) (hw : z.wd = X.w) (I : Inv X pins σ H s) {x y : V} {v u : Value} {k d : D} (rx : RelV x v) (ry : RelV y u) (hx : RepR z m F H x (.dict ds)) (hy : RepR z m F H y k) (hk : tkOk k = true) (hd : (ds.all fun p => tkOk p.1) = true) (hl : lookD ds k = some d) {Q : Value → Shared → Prop}
    (q : ∀ v' w' s', Inv X pins σ H s' → RelV v' w' → Rep z m F H v' d → Q w' s') : s.TypeIs v "dict" ∧ wpAny (model X.prog X.w) X.A (getItem v u) Q E s := by
  obtain ⟨a, rfl, is, _⟩ := hy.tk I.hok hk
  obtain ⟨c, xs, rfl, dv⟩ := hx.view hd I.hok hw
  cases rx
  cases ry
  refine ⟨dv.dd.typeIs, ?_⟩
  obtain ⟨h1, h2⟩ := RelN.look hk dv.rel
  cases e : atKey xs (nkOf k) with
  | none => rw [h2 e] at hl; cases hl
  | some p =>
    obtain ⟨d', v', e1, e2, e3⟩ := h1 p e
    rw [hl] at e1
    cases e1
    exact wpAny_getItem_heap (roomN hu) is dv.dd e (q v' _ _ (I.tok _) e2 e3)
theorem n_getD (hu : X.A.units + 10 < cLine) (hw : z.wd = X.w) (I : Inv X pins σ H s) {x y t : V} {v u r : Value} {k d : D} (rx : RelV x v) (ry : RelV y u) (rt : RelV t r) (hx : RepR z m F H x (.dict ds)) (hy : RepR z m F H y k) (ht : Rep z m F H t d) (hk : tkOk k = true) (hd : (ds.all fun p => tkOk p.1) = true) {Q : Value → Shared → Prop}
    (q : ∀ v' w' s', Inv X pins σ H s' → RelV v' w' → Rep z m F H v' ((lookD ds k).getD d) → Q w' s') : wpAny (model X.prog X.w) X.A (call (.builtin "dict.get") [v, u, r]) Q E s := by
  obtain ⟨a, rfl, is, _⟩ := hy.tk I.hok hk
  obtain ⟨c, xs, rfl, dv⟩ := hx.view hd I.hok hw
  cases rx
  cases ry
  obtain ⟨h1, h2⟩ := RelN.look hk dv.rel
  refine call_meetsIn PySem.F.slot_dict_get dv.dd.typeIs PySem.F.entry_dict_get (PySem.F.args_dict_get_3 _ _ _) (meetsH_dict_get_default (nestedKind X.prog X.w) c a dv.sm r) ⟨roomN hu, nkOf k, xs, is, dv.dd, ?_⟩
  cases e : atKey xs (nkOf k) with
  | none =>
    rw [h2 e] at q
    exact q t _ _ (I.tok _) rt ht
  | some p =>
    obtain ⟨d', v', e1, e2, e3⟩ := h1 p e
    rw [e1] at q
    exact q v' _ _ (I.tok _) e2 e3
theorem n_len (hw : z.wd = X.w) (I : Inv X pins σ H s) {x : V} {v : Value} (rx : RelV x v) (hx : RepR z m F H x (.dict ds)) (hd : (ds.all fun p => tkOk p.1) = true) {Q : Value → Shared → Prop} (q : ∀ t s', Inv X pins σ H s' → Q (.int ds.length t) s') : wpAny (model X.prog X.w) X.A (call (.builtin "len") [v]) Q E s := by
  obtain ⟨c, xs, rfl, dv⟩ := hx.view hd I.hok hw
  cases rx
  have sz := dv.sz
  refine call_len_dictH dv.sm dv.dd (by rw [sizeLine_eq] at sz; omega) ?_
  rw [dv.rel.len]
  exact q _ _ (I.tok _)
theorem n_tru (hw : z.wd = X.w) (I : Inv X pins σ H s) {x : V} {v : Value} (rx : RelV x v) (hx : RepR z m F H x (.dict ds)) (hd : (ds.all fun p => tkOk p.1) = true) {Q : Bool → Shared → Prop} (q : ∀ s', Inv X pins σ H s' → Q (!ds.isEmpty) s') : wpAny (model X.prog X.w) X.A (truthy v) Q E s := by
  obtain ⟨c, xs, rfl, dv⟩ := hx.view hd I.hok hw
  cases rx
  have sz := dv.sz
  have e : xs.isEmpty = ds.isEmpty := by
    have := dv.rel.len
    cases xs <;> cases ds <;> simp at this <;> rfl
  refine truthy_dictH dv.sm dv.dd (by rw [sizeLine_eq] at sz; omega) ?_
  rw [e]
  exact q _ (I.tok _)
/-- d[k] = v on a dict of one's own -/
theorem n_put (hu : X.A.units + 10 < cLine) (hw : z.wd = X.w) (I : Inv X pins σ H s) {c : Addr} {o : HO} {y t : V} {u r : Value} {k d : D} (ry : RelV y u) (rt : RelV t r) (hc : H c = some o) (hx : RepD z m F H c o ds) (hF : ¬ F c) (hy : Rep z m F H y k) (ht : Rep z m F H t d) (hk : tkOk k = true) (hd : (ds.all fun p => tkOk p.1) = true) (hl : ds.length < sizeLine) {Q : Unit → Shared → Prop}
    (q : ∀ o' s', Inv X pins σ (upd H c o') s' → RepD z m F (upd H c o') c o' (putD k d ds) → Q () s') : wpAny (model X.prog X.w) X.A (setItem (.ref c) u r) Q E s := by
  obtain ⟨a, rfl, is, ra⟩ := RepR.tk I.hok (.inl hy) hk
  obtain ⟨xs, dv⟩ := hx.view hd I.hok hw (.inl hc)
  cases ry
  have mu : Mut (H c) := by
    rw [hc]
    cases hx <;> exact True.intro
  refine wpAny_setItem_heap (hsz := dv.sz) (roomN hu) is dv.dd fun h' dd' hs => ?_
  have rel' := dv.rel.put hk ra rt ht
  have sz' : (storedH xs (nkOf k) a r).length ≤ sizeLine := by
    have h1 := storedH_length xs (nkOf k) a r
    have h2 := dv.rel.len
    omega
  obtain ⟨o', ro, ok'⟩ := rel'.obj hw sz' dv.sm dd'
  have he : ∃ b, h'.get? c = some b := let ⟨b, _, _, hb, _⟩ := dd'; ⟨b, hb⟩
  exact q o' _ (d_write I mu hs he (ok' _)) (ro.mono (Kp.updA hF) (fun _ h => h) (fun _ _ h => h))
/-- d.pop(k, None) -/
theorem n_pop (hu : X.A.units + 10 < cLine) (hw : z.wd = X.w) (I : Inv X pins σ H s) {c : Addr} {o : HO} {y t : V} {u r : Value} {k : D} (ry : RelV y u) (rt : RelV t r) (hc : H c = some o) (hx : RepD z m F H c o ds) (hF : ¬ F c) (hy : Rep z m F H y k) (hk : tkOk k = true) (hd : (ds.all fun p => tkOk p.1) = true) {Q : Value → Shared → Prop}
    (q : ∀ o' v' w' s', Inv X pins σ (upd H c o') s' → RelV v' w' → RepD z m F (upd H c o') c o' (dropD k ds) → Q w' s') : wpAny (model X.prog X.w) X.A (call (.builtin "dict.pop") [.ref c, u, r]) Q E s := by
  obtain ⟨a, rfl, is, ra⟩ := RepR.tk I.hok (.inl hy) hk
  obtain ⟨xs, dv⟩ := hx.view hd I.hok hw (.inl hc)
  cases ry
  have mu : Mut (H c) := by
    rw [hc]
    cases hx <;> exact True.intro
  have rel' := dv.rel.drop hk
  cases e : atKey xs (nkOf k) with
  | none =>
    refine call_pop_default_heap (hsz := dv.sz) (roomN hu) is dv.sm dv.dd e fun tk => ?_
    have ed : dropD k ds = ds := by
      have h1 := dv.rel.some_eq hk
      rw [e] at h1
      have h2 : (ds.any fun p => PyData.eqv p.1 k) = false := by rw [look_any]; exact h1.symm
      unfold dropD
      rw [List.filter_eq_self]
      intro p hp
      have := List.any_eq_false.mp h2 p hp
      simpa using this
    rw [ed] at q
    have eu : upd H c o = H := by
      funext b
      unfold upd
      split
      · rename_i hb; rw [hb, hc]
      · rfl
    refine q o t r _ ?_ rt ?_
    · rw [eu]; exact I.tok _
    · rw [eu]; exact hx
  | some p =>
    obtain ⟨h1, h2⟩ := RelN.look hk dv.rel
    obtain ⟨d', v', e1, e2, e3⟩ := h1 p e
    refine call_pop_heap (hsz := dv.sz) (.inr ⟨r, rfl⟩) (PySem.F.args_dict_pop_3 _ _ _) (roomN hu) is dv.sm dv.dd e fun h' dd' hs => ?_
    have sz' : (withoutH xs (nkOf k)).length ≤ sizeLine := Nat.le_trans (withoutH_length xs _) dv.sz
    obtain ⟨o', ro, ok'⟩ := rel'.obj hw sz' dv.sm dd'
    have he : ∃ b, h'.get? c = some b := let ⟨b, _, _, hb, _⟩ := dd'; ⟨b, hb⟩
    exact q o' v' _ _ (d_write I mu hs he (ok' _)) e2 (ro.mono (Kp.updA hF) (fun _ h => h) (fun _ _ h => h))
end
end Ev

set_option Elab.async false
set_option Elab.async false
set_option linter.all false
set_option maxRecDepth 100000
set_option autoImplicit false
/-! EvIt: the keys of a locked dict, one by one. -/
namespace Ev
open PySem PySem.Spec PyProof.Rows L2
section
variable {X : Cx} {pins : List (Addr × Obj)} {σ : L2.St} {H : Hp} {s : Shared} {d : Addr} {o : Obj} {wd : World}
theorem Inv.frzN {kvs : List (NestedKey × Addr × V)} (I : Inv X pins σ H s) (h : H d = some (.frz o (DN wd d kvs))) :
    (d == sysModules) = false ∧ s.heap.get? d = some o ∧ o.ExactDict ∧ kvs.length ≤ sizeLine ∧ ∃ (es : Array DictEntry) (ep : Nat), o.data = .dict es ep ∧ es.size = kvs.length ∧
      ∀ (i : Nat) (k : NestedKey) (q : Addr) (v : V), kvs[i]? = some (k, q, v) → ∃ en : DictEntry, es[i]? = some en ∧ en.key = .ref q := by
  obtain ⟨hd, ⟨xs, pr, sz, sm, o', es, ep, e1, e2, e3, e4, e6⟩, _, _⟩ := (show ObjOk X.prog X.w H s.heap d (.frz o (DN wd d kvs)) from I.hok d _ h)
  rw [hd] at e1
  cases e1
  have hl : kvs.length = xs.length := Paired.length pr
  have hs : es.size = xs.length := by
    have := congrArg List.length e4
    simpa using this
  refine ⟨sm, hd, e2, sz, es, ep, e3, hs.trans hl.symm, fun i k q v e => ?_⟩
  obtain ⟨b, hb, g1, g2, _⟩ := L2.paired_get pr e
  have : es.toList[i]? = some (entN wd b) := by rw [e4, List.getElem?_map, hb]; rfl
  refine ⟨entN wd b, by simpa using this, ?_⟩
  show Value.ref b.2.1 = _
  rw [← g2]
end
/-- the keys of the locked dict at d, each its own tuple -/
def Itn (d : Addr) (o : Obj) (wd : World) (kvs : List (NestedKey × Addr × V)) : It :=
  ⟨fun i H => H d = some (.frz o (DN wd d kvs)) ∧ i < kvs.length, fun i H x H' => H' = H ∧ ∃ k q v, kvs[i]? = some (k, q, v) ∧ x = .ref q, fun i H => H d = some (.frz o (DN wd d kvs)) ∧ kvs.length ≤ i⟩
section
variable {P : Program} {w wd : World} {K : PySem.W.Frag} {tg : Expr} {d : Addr} {o : Obj} {es : Array DictEntry} {ep : Nat}
theorem turn_keysN {kvs : List (NestedKey × Addr × V)} (it : Addr) (hod : o.data = .dict es ep) : Turn P w K tg (Itn d o wd kvs) [it] it (fun i h => h.IsKeyIter it d i kvs.length ep) where
  mem := by simp
  obj := fun i h st b hb => by
    have e : b = it := by simpa using hb
    subst e
    obtain ⟨oi, e, c, dd⟩ := st
    exact ⟨oi, e, fun v z => by rw [dd] at z; cases z⟩
  keep := fun i h h' st k => st.at fun oi e => k it (by simp) oi e
  item := by
    intro X hP hw hK hc i pins s σ H E I hf st hg
    subst hP hw hK
    obtain ⟨hd, hi⟩ := hg
    obtain ⟨f0, f1, f2, f3, f4, f5⟩ := hf it (by simp)
    obtain ⟨hs, hgd, hx, _, es', ep', hdt, hsz, ent⟩ := Inv.frzN I hd
    obtain ⟨rfl, rfl⟩ := dict_ep hod hdt
    obtain ⟨⟨k, q, v⟩, hkv⟩ : ∃ p, kvs[i]? = some p := ⟨kvs[i], List.getElem?_eq_getElem hi⟩
    obtain ⟨en, hen, hkey⟩ := ent i k q v hkv
    refine next_key_item st hgd hdt hsz hen fun h' st' sb => ?_
    have I1 : Inv X pins σ H { s with heap := h' } := I.turned (t' := s.toks) (fun b ob hb e => (sb.2 b hb).trans e) f0 f1 f3 f4 f5
    obtain ⟨oi, e, c, dd⟩ := id st'
    exact ⟨en.key, rfl, go_of (s := { s with heap := h' }) e c dd (by decide) ⟨.ref q, H, I1, hkey, ⟨rfl, k, q, v, hkv, rfl⟩, st', fun b hb => (hf b hb).1⟩⟩
  done := by
    intro X hP hw hK hc i pins s σ H E I hf st hg
    subst hP hw hK
    obtain ⟨hd, hi⟩ := hg
    obtain ⟨f0, f1, f2, f3, f4, f5⟩ := hf it (by simp)
    obtain ⟨hs, hgd, hx, _, es', ep', hdt, hsz, ent⟩ := Inv.frzN I hd
    obtain ⟨rfl, rfl⟩ := dict_ep hod hdt
    exact next_key_end (I.ok.hd hc) st hgd hdt hsz hi fun h' eb => ⟨rfl, I.turned (t' := s.toks) (fun b ob hb e => eb b ob hb e) f0 f1 f3 f4 f5⟩
  self := fun A i s Q E st h => by
    refine wpAny_pyIter_slot st.typeIs F.slot_dict_keyiterator_iter (wpAny_call_entry F.slot_dict_keyiterator_iter st.typeIs F.entry_dict_keyiterator_iter ?_ (F.args_dict_keyiterator_iter_1 _))
    show wpAny _ _ (PySem.ret (.ref it)) _ _ s
    exact wpAny_pure ⟨_, rfl, "dict_keyiterator", _, st.typeIs, F.slot_dict_keyiterator_next.lookup, h⟩
end
section
variable {z : Zt} {m : Mu} {F : Fz} {H : Hp}
theorem RepKN.len : ∀ {ks : List (NestedKey × Addr × V)} {ds : List (D × D)}, RepKN z m F H ks ds → ks.length = ds.length
  | _, _, .nil => rfl
  | _, _, .cons _ _ _ t => by rw [List.length_cons, List.length_cons, RepKN.len t]
theorem RepKN.keyAt : ∀ {ks : List (NestedKey × Addr × V)} {ds : List (D × D)}, RepKN z m F H ks ds → ∀ {i : Nat} {p : D × D}, ds[i]? = some p → ∃ q v, ks[i]? = some (nkOf p.1, q, v) ∧ Rep z m F H (.ref q) p.1
  | _, _, .nil, i, p, e => by simp at e
  | _, _, .cons (a := a) (k := k) (v := v) h0 h1 h2 t, 0, p, e => by
    cases e
    exact ⟨a, v, rfl, h1⟩
  | _, _, .cons h0 h1 h2 t, i + 1, p, e => by
    obtain ⟨q, v, e1, e2⟩ := RepKN.keyAt t (i := i) (p := p) (by simpa using e)
    exact ⟨q, v, by simpa using e1, e2⟩
theorem RepKV.lenV : ∀ {ks : List (Key × V)} {ds : List (D × D)}, RepKV z m F H ks ds → ks.length = ds.length
  | _, _, .nil => rfl
  | _, _, .cons _ t => by rw [List.length_cons, List.length_cons, RepKV.lenV t]
theorem RepKV.keyAt : ∀ {ks : List (Key × V)} {ds : List (D × D)}, RepKV z m F H ks ds → ∀ {i : Nat} {p : D × D}, ds[i]? = some p → ∃ k v, ks[i]? = some (k, v) ∧ Rep z m F H (kV k) p.1
  | _, _, .nil, i, p, e => by simp at e
  | _, _, .cons (k := k) (v := v) h1 t, 0, p, e => by
    cases e
    refine ⟨k, v, rfl, ?_⟩
    cases k with
    | inl i => exact .int i
    | inr x => exact .str x
  | _, _, .cons h1 t, i + 1, p, e => by
    obtain ⟨k, v, e1, e2⟩ := RepKV.keyAt t (i := i) (p := p) (by simpa using e)
    exact ⟨k, v, by simpa using e1, e2⟩
end
end Ev

set_option Elab.async false
set_option linter.all false
set_option maxRecDepth 100000
set_option autoImplicit false
/-! EvS3: in, built-ins, sorted. -/
namespace Ev
open PySem PySem.Spec PyProof.Rows L2

/-! ### keys -/
theorem keyOk_key {d : D} (h : keyOk d = true) : ∃ k : Key, d = keyD k := by
  cases d with
  | int i => exact ⟨.inl i, rfl⟩
  | str x => exact ⟨.inr x, rfl⟩
  | _ => simp [keyOk] at h
theorem eqv_key (a c : Key) : PyData.eqv (keyD a) (keyD c) = decide (a = c) := by
  cases a with
  | inl i =>
    cases c with
    | inl j => rw [key_ll]; simp [keyD, PyData.eqv]
    | inr y => rw [key_lr]; simp [keyD, PyData.eqv]
  | inr x =>
    cases c with
    | inl j => rw [key_rl]; simp [keyD, PyData.eqv]
    | inr y =>
      rw [key_rr]
      simp only [keyD, PyData.eqv]
      by_cases e : x = y
      · subst e; simp
      · rw [decide_eq_false e]; exact beq_eq_false_iff_ne.mpr e
section
variable {z : Zt} {m : Mu} {F : Fz} {H : Hp}
def RepO (z : Zt) (m : Mu) (F : Fz) (H : Hp) : Option V → Option D → Prop
  | some v, some d => Rep z m F H v d
  | none, none => True
  | _, _ => False
theorem Rep.key {k : Key} : Rep z m F H (kV k) (keyD k) := by
  cases k with
  | inl i => exact .int i
  | inr x => exact .str x
theorem RepR.key {k : Key} {v : V} (h : RepR z m F H v (keyD k)) : v = kV k := by
  cases k with
  | inl i => exact h.int
  | inr x => exact h.str
theorem RepKV.look (k : Key) : ∀ {ks : List (Key × V)} {ds : List (D × D)}, RepKV z m F H ks ds → RepO z m F H (valV ks k) (lookD ds (keyD k))
  | _, _, .nil => True.intro
  | _, _, .cons (k := k') h t => by
    by_cases e : k' = k
    · rw [valV_pos (p := (k', _)) e]
      unfold lookD
      rw [eqv_key, decide_eq_true e, if_pos rfl]
      exact h
    · rw [valV_neg (p := (k', _)) e]
      unfold lookD
      rw [eqv_key, decide_eq_false e, if_neg Bool.false_ne_true]
      exact RepKV.look k t
theorem RepO.some_eq {o : Option V} {d : Option D} (h : RepO z m F H o d) : o.isSome = d.isSome := by
  cases o <;> cases d <;> first | rfl | exact h.elim
theorem RepKV.length : ∀ {ks : List (Key × V)} {ds : List (D × D)}, RepKV z m F H ks ds → ks.length = ds.length
  | _, _, .nil => rfl
  | _, _, .cons _ t => by rw [List.length_cons, List.length_cons, RepKV.length t]
theorem RepKV.keys : ∀ {ks : List (Key × V)} {ds : List (D × D)}, RepKV z m F H ks ds → ds.map (·.1) = ks.map fun p => keyD p.1
  | _, _, .nil => rfl
  | _, _, .cons _ t => by
    rw [List.map_cons, List.map_cons, RepKV.keys t]
theorem RepKV.append : ∀ {ks ls : List (Key × V)} {ds es : List (D × D)}, RepKV z m F H ks ds → RepKV z m F H ls es → RepKV z m F H (ks ++ ls) (ds ++ es)
  | _, _, _, _, .nil, h => h
  | _, _, _, _, .cons h t, h' => .cons h (RepKV.append t h')
theorem RepKV.any (k : Key) : ∀ {ks : List (Key × V)} {ds : List (D × D)}, RepKV z m F H ks ds → (ks.any fun kv => decide (kv.1 = k)) = ds.any fun p => PyData.eqv p.1 (keyD k)
  | _, _, .nil => rfl
  | _, _, .cons (k := k') h t => by
    rw [List.any_cons, List.any_cons, RepKV.any k t, eqv_key]
theorem RepKV.repl (k : Key) {v : V} {d : D} (r : Rep z m F H v d) : ∀ {ks : List (Key × V)} {ds : List (D × D)}, RepKV z m F H ks ds →
    RepKV z m F H (ks.map fun kv => if kv.1 = k then (kv.1, v) else kv) (ds.map fun p => if PyData.eqv p.1 (keyD k) then (p.1, d) else p)
  | _, _, .nil => .nil
  | _, _, .cons (k := k') h t => by
    rw [List.map_cons, List.map_cons]
    by_cases e : k' = k
    · rw [if_pos e, if_pos (by rw [eqv_key, decide_eq_true e])]
      exact .cons r (RepKV.repl k r t)
    · rw [if_neg e, if_neg (by rw [eqv_key, decide_eq_false e]; exact Bool.false_ne_true)]
      exact .cons h (RepKV.repl k r t)
theorem RepKV.put (k : Key) {v : V} {d : D} (r : Rep z m F H v d) {ks : List (Key × V)} {ds : List (D × D)} (h : RepKV z m F H ks ds) : RepKV z m F H (putK ks k v) (putD (keyD k) d ds) := by
  unfold putK putD
  rw [h.any k]
  split
  · exact h.repl k r
  · exact h.append (.cons r .nil)
end

section
variable {X : Cx} {b : Bx}
theorem in_core (hu : X.A.units + 65 < cLine) (hw : b.z.wd = X.w) {pins : List (Addr × Obj)} {s : Shared} {σ : L2.St} {H : Hp} {x y : V} {v u : Value} {Q : Value → Shared → Prop} {m : Mu} {F : Fz} {dx dy : D} {c : Bool} (I : Inv X pins σ H s) (rx : RelV x v) (ry : RelV y u)
    (hx : RepR b.z m F H x dx) (hy : RepR b.z m F H y dy) (e : inD dx dy = some c) :
    ((∀ s', Inv X pins σ H s' → Q (.bool c) s') → wpAny (model X.prog X.w) X.A (compareOp .In v u) Q X.xe s) ∧ ((∀ s', Inv X pins σ H s' → Q (.bool (!c)) s') → wpAny (model X.prog X.w) X.A (compareOp .NotIn v u) Q X.xe s) := by
  unfold inD at e
  split at e
  · split at e
    · rename_i hm
      simp only [Bool.and_eq_true] at hm
      cases e
      obtain ⟨as, r1⟩ := Dp.reads I dx x v (hx.dp hm.1) rx
      obtain ⟨bs, r2⟩ := Dp.reads I _ y u (hy.dp hm.2) ry
      exact ⟨fun q => SeqAt.in_list_reads r2 r1 (SeqAt.canLay_of_shaped hm.2) (SeqAt.canLay_of_shaped hm.1) (room_in_shaped hm.1 hu) (q _ I), fun q => SeqAt.notIn_list_reads r2 r1 (SeqAt.canLay_of_shaped hm.2) (SeqAt.canLay_of_shaped hm.1) (room_in_shaped hm.1 hu) (q _ I)⟩
    · cases e
  · split at e
    · rename_i hm
      simp only [Bool.and_eq_true] at hm
      cases e
      obtain ⟨as, r1⟩ := Dp.reads I dx x v (hx.dp hm.1) rx
      obtain ⟨bs, r2⟩ := Dp.reads I _ y u (hy.dp hm.2) ry
      exact ⟨fun q => SeqAt.in_tuple_reads r2 r1 (SeqAt.canLay_of_shaped hm.2) (SeqAt.canLay_of_shaped hm.1) (room_in_shaped hm.1 hu) (q _ I), fun q => SeqAt.notIn_tuple_reads r2 r1 (SeqAt.canLay_of_shaped hm.2) (SeqAt.canLay_of_shaped hm.1) (room_in_shaped hm.1 hu) (q _ I)⟩
    · cases e
  · split at e
    · rename_i hm
      simp only [kyOk, Bool.or_eq_true, Bool.and_eq_true] at hm
      cases e
      rcases hm with hm | hm
      · obtain ⟨k, rfl⟩ := keyOk_key hm.1
        have ex := hx.key
        subst ex
        obtain ⟨a, ks, rfl, hr, hk⟩ := hy.dict hm.2
        cases ry
        have hs := (hk.look k).some_eq
        refine ⟨fun q => d_in (o := valV ks k) (by omega) I (.inl ⟨ks, k, hr, rfl, rfl⟩) rx fun s' I' => ?_, fun q => d_notIn (o := valV ks k) (by omega) I (.inl ⟨ks, k, hr, rfl, rfl⟩) rx fun s' I' => ?_⟩
        · rw [hs]; exact q s' I'
        · rw [hs]; exact q s' I'
      · exact n_in (by omega) hw I rx ry hx hy hm.1 hm.2
    · cases e
  · cases e
theorem od_in (hu : X.A.units + 65 < cLine) (hw : b.z.wd = X.w) : OpR X (compareOp .In) (rOp b fun x y => (inD x y).map .bool) := by
  intro pins s σ H x y v u Q I rx ry ⟨m, F, w, dx, dy, wf, hx, hy, p⟩
  obtain ⟨d, e, p⟩ := p.lift1
  obtain ⟨c, e1, rfl⟩ := Option.map_eq_some_iff.mp e
  exact (in_core hu hw I rx ry hx hy e1).1 fun s' I' => ⟨.bl c, H, I', rfl, p.here wf (.bl _)⟩
theorem od_notIn (hu : X.A.units + 65 < cLine) (hw : b.z.wd = X.w) : OpR X (compareOp .NotIn) (rOp b fun x y => (inD x y).map fun c => .bool (!c)) := by
  intro pins s σ H x y v u Q I rx ry ⟨m, F, w, dx, dy, wf, hx, hy, p⟩
  obtain ⟨d, e, p⟩ := p.lift1
  obtain ⟨c, e1, rfl⟩ := Option.map_eq_some_iff.mp e
  exact (in_core hu hw I rx ry hx hy e1).2 fun s' I' => ⟨.bl (!c), H, I', rfl, p.here wf (.bl _)⟩
end

/-! ### sorted -/
theorem insD_perm (x : D) : ∀ l, (insD x l).Perm (x :: l)
  | [] => .refl _
  | y :: ys => by
    unfold insD
    split
    · exact ((insD_perm x ys).cons y).trans (.swap _ _ _)
    · exact .refl _
theorem sortD_perm : ∀ l, (sortD l).Perm l
  | [] => .refl _
  | x :: xs => by
    unfold sortD
    exact (insD_perm x _).trans ((sortD_perm xs).cons x)
abbrev leS (x y : D) : Bool := PySem.W.dataLe false (fun d : D => d) x y
theorem leS_eq (x y : D) : leS x y = !PySem.W.dataLt y x := rfl
theorem leS_total : PySem.W.TotalLe leS := PySem.W.sortLe_total _ _ _
theorem insD_sorted (x : D) : ∀ l : List D, l.Pairwise (fun a c => leS a c = true) → (insD x l).Pairwise (fun a c => leS a c = true)
  | [], _ => by unfold insD; exact List.pairwise_singleton _ _
  | y :: ys, h => by
    have hy := (List.pairwise_cons.mp h).1
    have ht := (List.pairwise_cons.mp h).2
    unfold insD
    split
    · rename_i hlt
      refine List.pairwise_cons.mpr ⟨fun c hc => ?_, insD_sorted x ys ht⟩
      rcases List.mem_cons.mp ((insD_perm x ys).mem_iff.mp hc) with e | hc
      · subst e
        rcases leS_total.total y c with q | q
        · exact q
        · rw [leS_eq, hlt] at q; cases q
      · exact hy c hc
    · rename_i hlt
      have hxy : leS x y = true := by rw [leS_eq]; simpa using hlt
      refine List.pairwise_cons.mpr ⟨fun c hc => ?_, h⟩
      rcases List.mem_cons.mp hc with e | hc
      · subst e; exact hxy
      · exact leS_total.trans x y c hxy (hy c hc)
theorem sortD_sorted : ∀ l : List D, (sortD l).Pairwise (fun a c => leS a c = true)
  | [] => .nil
  | x :: xs => by unfold sortD; exact insD_sorted x _ (sortD_sorted xs)
theorem insD_filter (c x : D) : ∀ l : List D, (insD x l).filter (PySem.W.sameRank leS c) = (x :: l).filter (PySem.W.sameRank leS c)
  | [] => rfl
  | y :: ys => by
    unfold insD
    split
    · rename_i hlt
      rw [List.filter_cons, insD_filter c x ys]
      -- x and y are not both of c's rank
      by_cases hx : PySem.W.sameRank leS c x = true
      · by_cases hy : PySem.W.sameRank leS c y = true
        · exfalso
          unfold PySem.W.sameRank at hx hy
          rw [Bool.and_eq_true] at hx hy
          have q : leS x y = true := leS_total.trans x c y hx.2 hy.1
          rw [leS_eq, hlt] at q
          cases q
        · rw [if_neg hy, List.filter_cons, List.filter_cons, if_pos hx, List.filter_cons, if_neg hy, if_pos hx]
      · rw [List.filter_cons, if_neg hx, List.filter_cons, if_neg hx, List.filter_cons]
    · rfl
theorem sortD_filter (c : D) : ∀ l : List D, (sortD l).filter (PySem.W.sameRank leS c) = l.filter (PySem.W.sameRank leS c)
  | [] => rfl
  | x :: xs => by
    unfold sortD
    rw [insD_filter, List.filter_cons, List.filter_cons, sortD_filter c xs]
theorem sortD_merge (l : List D) : sortD l = l.mergeSort leS := PySem.W.sort_unique leS_total (sortD_sorted l) fun c => sortD_filter c l
theorem sortD_length (l : List D) : (sortD l).length = l.length := (sortD_perm l).length_eq

/-- pairs of a value and its datum -/
theorem RepAll.pairs {z : Zt} {m : Mu} {F : Fz} {H : Hp} : ∀ {vs : List V} {ds : List D}, RepAll z m F H vs ds → ∃ ps : List (V × D), ps.map (·.1) = vs ∧ ps.map (·.2) = ds ∧ ∀ p ∈ ps, Rep z m F H p.1 p.2
  | _, _, .nil => ⟨[], rfl, rfl, fun _ h => nomatch h⟩
  | _, _, .cons (v := v) (d := d) h t => by
    obtain ⟨ps, e1, e2, e3⟩ := RepAll.pairs t
    refine ⟨(v, d) :: ps, by rw [List.map_cons, e1], by rw [List.map_cons, e2], fun p hp => ?_⟩
    rcases List.mem_cons.mp hp with e | hp
    · subst e; exact h
    · exact e3 p hp
theorem RepAll.of_pairs {z : Zt} {m : Mu} {F : Fz} {H : Hp} : ∀ {ps : List (V × D)}, (∀ p ∈ ps, Rep z m F H p.1 p.2) → RepAll z m F H (ps.map (·.1)) (ps.map (·.2))
  | [], _ => .nil
  | p :: ps, h => .cons (h p List.mem_cons_self) (RepAll.of_pairs fun q hq => h q (List.mem_cons_of_mem _ hq))
theorem vals_each : ∀ {ps : List (V × D)} {us : List Value}, Vals (ps.map (·.1)) us → PySem.W.EachIs (fun u (p : V × D) => RelV p.1 u) us ps
  | [], [], _ => .nil
  | [], _ :: _, h => by cases h
  | _ :: _, [], h => by cases h
  | p :: ps, u :: us, h => by
    cases h with
    | cons r t => exact .cons r (vals_each t)
theorem each_vals : ∀ {ps : List (V × D)} {us : List Value}, PySem.W.EachIs (fun u (p : V × D) => RelV p.1 u) us ps → Vals (ps.map (·.1)) us
  | [], [], _ => .nil
  | [], _ :: _, h => by cases h
  | _ :: _, [], h => by cases h
  | p :: ps, u :: us, h => by
    cases h with
    | cons r t => exact .cons r (each_vals t)

theorem sortable_of {ds : List D} (h : sortOk ds = true) : PySem.W.AllAlike ds ∧ PySem.W.Sortable ds ∧ ∀ d ∈ ds, ok2 d = true := by
  unfold sortOk at h
  simp only [Bool.and_eq_true, Bool.or_eq_true, List.all_eq_true] at h
  obtain ⟨⟨h1, h2⟩, h3⟩ := h
  refine ⟨fun d hd d' hd' => h1 d hd d' hd', ?_, h3⟩
  rcases h2 with q | q
  · refine .inl fun d hd => ?_
    have := q d hd
    cases d with
    | tuple xs =>
      cases xs with
      | nil => simp [ntup] at this
      | cons x r => exact ⟨x, r, rfl⟩
    | _ => simp [ntup] at this
  · refine .inr fun d hd => ?_
    have := q d hd
    cases d with
    | none => simp [nonT] at this
    | tuple xs => simp [nonT] at this
    | _ => exact ⟨(fun e => nomatch e), (fun xs e => nomatch e)⟩

section
variable {X : Cx} {b : Bx}
/-- a call with one argument, by data -/
def rC1 (b : Bx) (f : D → Option D) : List V → Hp → VK → Prop := fun vs H Q => ∃ m F w v d, vs = [v] ∧ Wf b.z m F w H ∧ RepR b.z m F H v d ∧ Post b m F H (lift (f d) w) (Rep b.z) Q
theorem sorted_core (hu : X.A.units + 66 < cLine) {pins : List (Addr × Obj)} {s : Shared} {σ : L2.St} {H : Hp} {Q : VK} {m : Mu} {F : Fz} {w : W} {a : Addr} {vs : List V} {ds : List D} (I : Inv X pins σ H s) (wf : Wf b.z m F w H) (ha : H a = some (.lst vs)) (hr : RepAll b.z m F H vs ds)
    (hs : sortOk ds = true) (p : Post b m F H (.ok (.list (sortD ds)) w) (Rep b.z) Q) : wpAny (model X.prog X.w) X.A (call (.builtin "sorted") [.ref a]) (EP X pins σ Q) X.xe s := by
  obtain ⟨h1, h2, h3⟩ := sortable_of hs
  obtain ⟨ps, e1, e2, e3⟩ := hr.pairs
  obtain ⟨its, rv, hl, hz⟩ := I.list (X := X) (.inl (.inl ha))
  subst e1
  subst e2
  have each := vals_each rv
  have dp : ∀ q ∈ ps, Dp X.K H q.1 q.2 := fun q hq => (e3 q hq).dp (SeqAt.canLay_of_shaped (h3 _ (List.mem_map.mpr ⟨q, hq, rfl⟩)))
  have er : PySem.W.EachIs (fun u (q : V × D) => ∃ as, Reads s.heap u q.2 as) its ps := by
    refine (PySem.W.each_mem each).mono fun u q ⟨ru, hq⟩ => Dp.reads I q.2 q.1 u (dp q hq) ru
  refine PySem.W.sorted_data (enc := fun q : V × D => q.2) hl.isList each er h1 h2 (by rw [List.length_map] at hz; exact hz) (fun q hq => ?_) fun out hlen ho => ?_
  · have hd := SeqAt.depth_of_shaped (h3 _ (List.mem_map.mpr ⟨q, hq, rfl⟩))
    omega
  · have rv' := each_vals ho
    have mp : (ps.mergeSort (PySem.W.dataLe false fun q : V × D => q.2)).map (fun q : V × D => q.2) = sortD (ps.map fun q => q.2) := by
      rw [sortD_merge]
      exact PySem.W.sort_maps (fun q : V × D => q.2) fun _ _ _ _ => rfl
    have hr' : RepAll b.z m F H ((ps.mergeSort (PySem.W.dataLe false fun q : V × D => q.2)).map (·.1)) (sortD (ps.map fun q => q.2)) := by
      rw [← mp]
      exact RepAll.of_pairs fun q hq => e3 q (List.mem_mergeSort.mp hq)
    obtain ⟨ep, he⟩ := PyProof.Rows.sortedAll_at s.heap its out.toArray
    have hn : H (s.heap.objs.size + 1) = none := I.hok.fresh (Nat.le_succ _)
    refine ⟨.ref _, upd H (s.heap.objs.size + 1) (.lst _), I.laid (t' := s.toks) (fun _ _ => PyProof.Rows.sortedAll_old) (Nat.le_succ _) ⟨?_, out, ep, rv', he⟩, rfl, p.lst wf hr' _ hn⟩
    rw [hr'.length, sortD_length, List.length_map]
    rw [List.length_map] at hz
    exact hz
mutual
theorem reads_lt {h : Heap} : ∀ {v : Value} {d : D} {as : List Addr}, Reads h v d as → ∀ b ∈ as, b < h.objs.size
  | _, _, _, .none, b, hb => by cases hb
  | _, _, _, .bool _, b, hb => by cases hb
  | _, _, _, .int _ _, b, hb => by cases hb
  | _, _, _, .str _ _, b, hb => by cases hb
  | _, _, _, .list h1 _ _ h2, b, hb => by
    rcases List.mem_cons.mp hb with e | hb
    · exact e ▸ Heap.lt_size h1
    · exact readsAll_lt h2 b hb
  | _, _, _, .tuple _ _ _ h2, b, hb => readsAll_lt h2 b hb
  | _, _, _, .dict h1 _ _ h2 h3, b, hb => by
    rcases List.mem_append.mp hb with hb | hb
    · rcases List.mem_cons.mp hb with e | hb
      · exact e ▸ Heap.lt_size h1
      · exact readsAll_lt h2 b hb
    · exact readsAll_lt h3 b hb
theorem readsAll_lt {h : Heap} : ∀ {vs : List Value} {ds : List D} {as : List Addr}, ReadsAll h vs ds as → ∀ b ∈ as, b < h.objs.size
  | _, _, _, .nil, b, hb => by cases hb
  | _, _, _, .cons h1 h2, b, hb => by
    rcases List.mem_append.mp hb with hb | hb
    · exact reads_lt h1 b hb
    · exact readsAll_lt h2 b hb
end
theorem sorted_call {prog : Program} {w : World} {A : Around} {E : Value → Shared → Prop} {s : Shared} {x : Value} {Q : Value → Shared → Prop}
    (h : wpAny (model prog w) A.in1 (collect x) (fun vs s' => ∃ h' tk, s' = { s with heap := h', toks := tk } ∧ vs.length ≤ sizeLine ∧ wpAny (model prog w) A.in1 (call (.builtin "list.sort") [.ref h'.objs.size]) (fun _ s' => Q (.ref h'.objs.size) s') E { s with heap := h'.push { cls := .type "list", data := .seq vs.toArray }, toks := tk }) E s) :
    wpAny (model prog w) A (call (.builtin "sorted") [x]) Q E s := by
  refine Calls.call_function_entry kind_sorted plain_sorted entry_sorted (args_sorted1 _) ?_
  unfold Builtin.«sorted»
  refine wpAny_bind (m := checkCount "sorted" 1 1 _) (wpAny_pure ?_)
  refine wpAny_bind (wpAny_mono h (fun vs s' ⟨h', tk, es, hz, hg⟩ => ?_) fun _ _ e => e)
  subst es
  refine wpAny_bind (wpAny_newList ?_ hz)
  refine wpAny_bind (wpAny_holding (wpAny_mono hg (fun _ s' x => ?_) fun _ _ e => e))
  exact wpAny_pure ⟨_, rfl, x⟩
theorem sort_tail (hu : X.A.units + 66 < cLine) {pins : List (Addr × Obj)} {s : Shared} {σ : L2.St} {H : Hp} {Q : VK} {m : Mu} {F : Fz} {w : W} {vs : List V} {ds : List D} {its : List Value} (I : Inv X pins σ H s) (wf : Wf b.z m F w H) (rv : Vals vs its) (hr : RepAll b.z m F H vs ds)
    (hs : sortOk ds = true) (hz : ds.length ≤ sizeLine) (p : Post b m F H (.ok (.list (sortD ds)) w) (Rep b.z) Q) :
    wpAny (model X.prog X.w) X.A.in1 (call (.builtin "list.sort") [.ref s.heap.objs.size]) (fun _ s' => EP X pins σ Q (.ref s.heap.objs.size) s') X.xe { s with heap := s.heap.push { cls := .type "list", data := .seq its.toArray } } := by
  obtain ⟨h1, h2, h3⟩ := sortable_of hs
  obtain ⟨ps, e1, e2, e3⟩ := hr.pairs
  subst e1
  subst e2
  have each := vals_each rv
  have dp : ∀ q ∈ ps, Dp X.K H q.1 q.2 := fun q hq => (e3 q hq).dp (SeqAt.canLay_of_shaped (h3 _ (List.mem_map.mpr ⟨q, hq, rfl⟩)))
  have hob : (s.heap.push { cls := .type "list", data := .seq its.toArray }).get? s.heap.objs.size = some (seqObj "list" its.toArray 0) := Heap.get?_push_size _ rfl
  have kb : ∀ c o, s.heap.get? c = some o → (s.heap.push { cls := .type "list", data := .seq its.toArray }).get? c = some o := fun c o e => Heap.get?_push_of_some _ e
  have er : PySem.W.EachIs (fun u (q : V × D) => ∃ as, Reads (s.heap.push { cls := .type "list", data := .seq its.toArray }) u q.2 as ∧ s.heap.objs.size ∉ as) its ps := by
    refine (PySem.W.each_mem each).mono fun u q ⟨ru, hq⟩ => ?_
    obtain ⟨as, r⟩ := Dp.reads I q.2 q.1 u (dp q hq) ru
    exact ⟨as, PyProof.Rows.Reads.keeps kb r, fun hm => absurd (reads_lt r _ hm) (Nat.lt_irrefl _)⟩
  refine PySem.W.list_sort_data (s := { s with heap := s.heap.push { cls := .type "list", data := .seq its.toArray } }) (A := X.A.in1) (enc := fun q : V × D => q.2) hob each er h1 h2 (by rw [List.length_map] at hz; exact hz) (fun q hq => ?_) fun out hlen ho => ?_
  · have hd := SeqAt.depth_of_shaped (h3 _ (List.mem_map.mpr ⟨q, hq, rfl⟩))
    show X.A.units + 1 + 1 + _ < _
    omega
  · have rv' := each_vals ho
    have mp : (ps.mergeSort (PySem.W.dataLe false fun q : V × D => q.2)).map (fun q : V × D => q.2) = sortD (ps.map fun q => q.2) := by
      rw [sortD_merge]
      exact PySem.W.sort_maps (fun q : V × D => q.2) fun _ _ _ _ => rfl
    have hr' : RepAll b.z m F H ((ps.mergeSort (PySem.W.dataLe false fun q : V × D => q.2)).map (·.1)) (sortD (ps.map fun q => q.2)) := by
      rw [← mp]
      exact RepAll.of_pairs fun q hq => e3 q (List.mem_mergeSort.mp hq)
    generalize hh2 : s.heap.push { cls := .type "list", data := .seq its.toArray } = h2 at hob kb ⊢
    have kF : ∀ c o, c ≠ s.heap.objs.size → h2.get? c = some o → (sortedHeap h2 s.heap.objs.size its (List.toArray out)).get? c = some o := fun c o hc e => (PyProof.Rows.sortedHeap_old hc (Heap.lt_size e)).trans e
    have kS : ∀ c o, s.heap.get? c = some o → (sortedHeap h2 s.heap.objs.size its (List.toArray out)).get? c = some o := fun c o e => kF c o (Nat.ne_of_lt (Heap.lt_size e)) (kb c o e)
    obtain ⟨eF, heF⟩ := PyProof.Rows.sortedHeap_at (vs := its) (out := List.toArray out) hob
    have I1 : Inv X pins σ H { s with heap := sortedHeap h2 s.heap.objs.size its (List.toArray out) } := I.kept (t' := s.toks) kS
    have hn0 : H s.heap.objs.size = none := I.hok.fresh (Nat.le_refl _)
    have hl' : (ps.mergeSort (PySem.W.dataLe false fun q : V × D => q.2)).length = ps.length := List.length_mergeSort ..
    refine ⟨.ref s.heap.objs.size, upd H s.heap.objs.size (.lst _), I1.take (h' := sortedHeap h2 s.heap.objs.size its (List.toArray out)) (t' := s.toks) (fun c ob _ e => e) (I.fpOk (Nat.le_refl _) hn0) ⟨?_, out, eF, rv', by simpa using heF⟩, rfl, p.lst wf hr' _ hn0⟩
    rw [List.length_map, hl']
    rw [List.length_map] at hz
    exact hz
theorem DV.keys {z : Zt} {m : Mu} {F : Fz} {H : Hp} {h : Heap} {P : Program} {w : World} {a : Addr} {ds : List (D × D)} {xs : List (NestedKey × Addr × Value)} {es : Array DictEntry} (rel : RelN z m F H xs ds) {acc : Array Value}
    (hacc : ItemsOf (fun i v => ∃ en : DictEntry, es[i]? = some en ∧ v = en.key) acc es.size) (g4 : es.toList.map (·.key) = xs.map fun x => Value.ref x.2.1) : ∃ vs, Vals vs acc.toList ∧ RepAll z m F H vs (ds.map (·.1)) := by
  have e : acc.toList = xs.map fun x => Value.ref x.2.1 := by
    rw [← g4]
    refine List.ext_getElem? fun i => ?_
    have hl : acc.size = es.size := hacc.1
    by_cases hi : i < es.size
    · obtain ⟨en, e1, e2⟩ := hacc.2 i acc[i] (Array.getElem?_eq_getElem (by omega))
      rw [List.getElem?_map, Array.getElem?_toList, Array.getElem?_toList, e1, Array.getElem?_eq_getElem (by omega), e2]
      rfl
    · rw [List.getElem?_map, Array.getElem?_toList, Array.getElem?_toList, Array.getElem?_eq_none (by omega), Array.getElem?_eq_none (by omega)]
      rfl
  rw [e]
  clear e g4 hacc
  induction rel with
  | nil => exact ⟨[], .nil, .nil⟩
  | cons h t ih =>
    obtain ⟨vs, r1, r2⟩ := ih
    exact ⟨_, .cons (show RelV (.ref _) (Value.ref _) from rfl) r1, .cons h.2.2.1 r2⟩
theorem cd_sorted (hc : X.calm = true) (hw : b.z.wd = X.w) (hu : X.A.units + 66 < cLine) : CallR X (.builtin "sorted") (rC1 b sortedD) := by
  intro pins s σ H xs us Q I r ⟨m, F, w, v, d, ex, wf, hr, p⟩
  subst ex
  obtain ⟨d', e, p⟩ := p.lift1
  unfold sortedD at e
  split at e
  · split at e
    · rename_i xs hs
      cases e
      obtain ⟨a, vs, rfl, h1, h2⟩ := hr.list
      rw [Vals.ref1 r]
      exact sorted_core hu I wf h1 h2 hs p
    · cases e
  · split at e
    · rename_i xs hs
      cases e
      obtain ⟨a, vs, rfl, h1, h2, h3⟩ := hr.tuple
      rw [Vals.ref1 r]
      obtain ⟨its, rv, pl, hz⟩ := I.tuple (X := X) (.inl (.inl h1))
      obtain ⟨o, e1, e2, n, e3⟩ := (show s.heap.IsTuple a its.toArray from pl)
      have hl : its.length = xs.length := by rw [← rv.length, h2.length]
      have hz' : xs.length ≤ sizeLine := by rw [← h2.length]; exact hz
      refine sorted_call (wpAny_collect_seq (T := "tuple") a (.inr rfl) e1 e2 e3 (fun h' hk => ⟨h', s.toks, rfl, ?_, ?_⟩) (by simpa [hl] using hz'))
      · simpa [hl] using hz'
      · have e : its.toArray.toList = its := by simp
        rw [e]
        have I' : Inv X pins σ H { s with heap := h' } := I.kept (t' := s.toks) hk
        exact sort_tail hu I' wf rv h2 hs hz' p
    · cases e
  · split at e
    · rename_i kvs hk
      cases e
      rw [Bool.and_eq_true] at hk
      obtain ⟨a, xs, rfl, dv⟩ := hr.view hk.1 I.hok hw
      rw [Vals.ref1 r]
      obtain ⟨o, es, ep, g1, g2, g3, g4, g5, g6⟩ := dv.dd
      have hl := dv.rel.len
      have hes : es.size = xs.length := by
        have := congrArg List.length g4
        simpa using this
      refine sorted_call (PySem.W.kdu_collect (A := X.A.in1) (kdl_raw dv.sm g2 g3) (I.ok.hd hc) g1 (by rw [hes]; exact dv.sz) fun h' tk acc hk' hacc => ⟨h', tk, rfl, ?_, ?_⟩)
      · rw [Array.length_toList, hacc.1, hes]; exact dv.sz
      · obtain ⟨vs, rv, ra⟩ := DV.keys (h := s.heap) (P := X.prog) (w := X.w) (a := a) dv.rel hacc (by rw [g4, List.map_map]; rfl)
        have I' : Inv X pins σ H { s with heap := h', toks := tk } := I.kept (t' := tk) hk'
        exact sort_tail hu I' wf rv ra hk.2 (by rw [List.length_map, ← hl]; exact dv.sz) p
    · cases e
  · cases e
end
end Ev

set_option Elab.async false
set_option linter.all false
set_option maxRecDepth 100000
set_option autoImplicit false
/-! EvS4: further built-ins, items, slices, truth. -/
namespace Ev
open PySem PySem.Spec PyProof.Rows L2

section
variable {z : Zt} {m : Mu} {F : Fz} {H : Hp}
theorem RepAll.bools : ∀ {vs : List V} {ds : List D} {bs : List Bool}, RepAll z m F H vs ds → boolsD ds = some bs → vs = bs.map V.bl
  | _, _, _, .nil, e => by
    unfold boolsD at e
    cases e; rfl
  | _, _, _, .cons (d := d) h t, e => by
    cases d with
    | bool c =>
      unfold boolsD at e
      obtain ⟨r, e1, rfl⟩ := Option.map_eq_some_iff.mp e
      rw [RepAll.bools t e1]
      cases h
      rfl
    | _ => cases e
theorem RepAll.ints : ∀ {vs : List V} {ds : List D} {ns : List Int}, RepAll z m F H vs ds → intsD ds = some ns → vs = ns.map V.int
  | _, _, _, .nil, e => by
    unfold intsD at e
    cases e; rfl
  | _, _, _, .cons (d := d) h t, e => by
    cases d with
    | int c =>
      unfold intsD at e
      obtain ⟨r, e1, rfl⟩ := Option.map_eq_some_iff.mp e
      rw [RepAll.ints t e1]
      cases h
      rfl
    | _ => cases e
end
theorem maxI_spec : ∀ (ns : List Int) (x : Int), maxI x ns ∈ x :: ns ∧ ∀ y ∈ x :: ns, y ≤ maxI x ns
  | [], x => ⟨List.mem_cons_self, fun y hy => by
      have : y = x := by simpa using hy
      subst this
      exact Int.le_refl _⟩
  | n :: ns, x => by
    unfold maxI
    obtain ⟨h1, h2⟩ := maxI_spec ns (if x < n then n else x)
    refine ⟨?_, fun y hy => ?_⟩
    · rcases List.mem_cons.mp h1 with e | h
      · rw [e]
        split
        · exact List.mem_cons_of_mem _ List.mem_cons_self
        · exact List.mem_cons_self
      · exact List.mem_cons_of_mem _ (List.mem_cons_of_mem _ h)
    · have h0 := h2 _ List.mem_cons_self
      rcases List.mem_cons.mp hy with e | hy
      · subst e
        refine Int.le_trans ?_ h0
        split <;> omega
      · rcases List.mem_cons.mp hy with e | hy
        · subst e
          refine Int.le_trans ?_ h0
          split <;> omega
        · exact h2 y (List.mem_cons_of_mem _ hy)
theorem minI_spec : ∀ (ns : List Int) (x : Int), minI x ns ∈ x :: ns ∧ ∀ y ∈ x :: ns, minI x ns ≤ y
  | [], x => ⟨List.mem_cons_self, fun y hy => by
      have : y = x := by simpa using hy
      subst this
      exact Int.le_refl _⟩
  | n :: ns, x => by
    unfold minI
    obtain ⟨h1, h2⟩ := minI_spec ns (if n < x then n else x)
    refine ⟨?_, fun y hy => ?_⟩
    · rcases List.mem_cons.mp h1 with e | h
      · rw [e]
        split
        · exact List.mem_cons_of_mem _ List.mem_cons_self
        · exact List.mem_cons_self
      · exact List.mem_cons_of_mem _ (List.mem_cons_of_mem _ h)
    · have h0 := h2 _ List.mem_cons_self
      rcases List.mem_cons.mp hy with e | hy
      · subst e
        refine Int.le_trans h0 ?_
        split <;> omega
      · rcases List.mem_cons.mp hy with e | hy
        · subst e
          refine Int.le_trans h0 ?_
          split <;> omega
        · exact h2 y (List.mem_cons_of_mem _ hy)

section
variable {X : Cx} {b : Bx}
theorem cd_len (hw : b.z.wd = X.w) : CallR X (.builtin "len") (rC1 b lenD) := by
  intro pins s σ H xs us Q I r ⟨m, F, w, v, d, ex, wf, hr, p⟩
  subst ex
  obtain ⟨d', e, p⟩ := p.lift1
  unfold lenD at e
  split at e
  · cases e
    obtain ⟨a, vs, rfl, h1, h2⟩ := hr.list
    exact call_len_seq pins s σ H _ us Q I r ⟨a, vs, rfl, .inl (.inl (.inl h1)), by rw [h2.length]; exact p.here wf (.int _)⟩
  · cases e
    obtain ⟨a, vs, rfl, h1, h2, _⟩ := hr.tuple
    exact call_len_seq pins s σ H _ us Q I r ⟨a, vs, rfl, .inr (.inl (.inl h1)), by rw [h2.length]; exact p.here wf (.int _)⟩
  · split at e
    · rename_i hk
      simp only [kdOk, Bool.or_eq_true] at hk
      cases e
      rcases hk with hk | hk
      · obtain ⟨a, ks, rfl, h1, h2⟩ := hr.dict hk
        rw [Vals.ref1 r]
        exact d_len I h1 fun t s' I' => ⟨.int _, H, I', ⟨t, rfl⟩, by rw [h2.length]; exact p.here wf (.int _)⟩
      · obtain ⟨u, rfl, rx⟩ := vals1 r
        exact n_len hw I rx hr hk fun t s' I' => ⟨.int _, H, I', ⟨t, rfl⟩, p.here wf (.int _)⟩
    · cases e
  · cases e
theorem cd_all (hc : X.calm = true) : CallR X (.builtin "all") (rC1 b allD) := by
  intro pins s σ H xs us Q I r ⟨m, F, w, v, d, ex, wf, hr, p⟩
  subst ex
  obtain ⟨d', e, p⟩ := p.lift1
  unfold allD at e
  split at e
  · obtain ⟨bs, e1, rfl⟩ := Option.map_eq_some_iff.mp e
    obtain ⟨a, vs, rfl, h1, h2⟩ := hr.list
    have ev := h2.bools e1
    subst ev
    exact cr_all hc pins s σ H _ us Q I r ⟨a, bs, rfl, .inl (.inl h1), p.here wf (.bl _)⟩
  · cases e
theorem cd_any (hc : X.calm = true) : CallR X (.builtin "any") (rC1 b anyD) := by
  intro pins s σ H xs us Q I r ⟨m, F, w, v, d, ex, wf, hr, p⟩
  subst ex
  obtain ⟨d', e, p⟩ := p.lift1
  unfold anyD at e
  split at e
  · obtain ⟨bs, e1, rfl⟩ := Option.map_eq_some_iff.mp e
    obtain ⟨a, vs, rfl, h1, h2⟩ := hr.list
    have ev := h2.bools e1
    subst ev
    exact cr_any hc pins s σ H _ us Q I r ⟨a, bs, rfl, .inl (.inl h1), p.here wf (.bl _)⟩
  · cases e
theorem sum_tup {prog : Program} {w : World} {A : Around} {E : Value → Shared → Prop} {s : Shared} {l : Addr} {its : List Value} {ns : List Int} {Q : Value → Shared → Prop} (hh : A.handled = none) (hl : s.heap.IsTuple l its.toArray) (hi : IntsAre its ns)
    (h : ∀ h' tk t', (∀ b o, s.heap.get? b = some o → h'.get? b = some o) → Q (.int ns.sum t') { s with heap := h', toks := tk }) : wpAny (model prog w) A (call (.builtin "sum") [.ref l]) Q E s := by
  obtain ⟨xs, e⟩ := hi.allInts.items
  have hn : numsOf (intItems xs).toList = ns := by rw [← e]; exact hi.numsOf
  rw [nums_intItems] at hn
  rw [e] at hl
  have hlt : l < s.heap.objs.size := by obtain ⟨_, e, _⟩ := hl; exact Heap.lt_size e
  refine call_sum_walkG (wpAny_pyIter_tuple hl ?_)
  refine ⟨_, [s.heap.objs.size, l], [s.heap.objs.size], _, _, _, numAt xs, rfl, Walks.tuple (A := A.in1) hh _ l (Nat.ne_of_lt hlt) (intItems xs), ⟨⟨_, Heap.get?_push_size _ rfl, rfl, rfl⟩, hl.push _⟩, fun b hb => ?_, (fun _ _ => intItems_at), fun h' tk t' hk => ?_⟩
  · show b < (s.heap.push _).objs.size
    rw [Heap.size_push]
    rcases List.mem_cons.mp hb with e | hb
    · exact e ▸ Nat.lt_succ_self _
    · exact (List.mem_singleton.mp hb) ▸ Nat.lt_succ_of_lt hlt
  · have := h h' tk t' (fun b o e => hk b o (fun hb => absurd (Heap.lt_size e) ((List.mem_singleton.mp hb) ▸ Nat.lt_irrefl _)) (Heap.get?_push_of_some _ e))
    have e2 : preSum (numAt xs) (intItems xs).size = ns.sum := by
      rw [preSum_eq, List.take_of_length_le (by simp [intItems]), hn]
    rw [e2]
    exact this
theorem cd_sum (hc : X.calm = true) : CallR X (.builtin "sum") (rC1 b sumD) := by
  intro pins s σ H xs us Q I r ⟨m, F, w, v, d, ex, wf, hr, p⟩
  subst ex
  obtain ⟨d', e, p⟩ := p.lift1
  unfold sumD at e
  split at e
  · obtain ⟨bs, e1, rfl⟩ := Option.map_eq_some_iff.mp e
    obtain ⟨a, vs, rfl, h1, h2⟩ := hr.list
    have ev := h2.ints e1
    subst ev
    exact cr_sum hc pins s σ H _ us Q I r ⟨a, bs, rfl, .inl (.inl h1), p.here wf (.int _)⟩
  · obtain ⟨bs, e1, rfl⟩ := Option.map_eq_some_iff.mp e
    obtain ⟨a, vs, rfl, h1, h2, h3⟩ := hr.tuple
    have ev := h2.ints e1
    subst ev
    obtain ⟨its, rv, pl, hz⟩ := I.tuple (X := X) (.inl (.inl h1))
    rw [Vals.ref1 r]
    exact sum_tup (I.ok.hd hc) pl rv.ints fun h' tk t' hk => ⟨.int _, H, I.kept hk, ⟨_, rfl⟩, p.here wf (.int _)⟩
  · cases e
theorem fold_maxI : ∀ (bs : List Int) (x : Int), bs.foldl max x = maxI x bs
  | [], _ => rfl
  | y :: bs, x => by
    show bs.foldl max (max x y) = maxI (if x < y then y else x) bs
    rw [fold_maxI bs]
    congr 1
    omega
theorem ints_read {h : Heap} : ∀ {ns : List Int} {its : List Value}, Vals (ns.map V.int) its → ∃ as, ReadsAll h its (ns.map PyData.int) as
  | [], [], _ => ⟨_, .nil⟩
  | [], _ :: _, r => by cases r
  | _ :: _, [], r => by cases r
  | n :: ns, u :: us, r => by
    cases r with
    | cons r1 r2 =>
      obtain ⟨t, rfl⟩ := (show ∃ t, u = Value.int n t from r1)
      obtain ⟨as, q⟩ := ints_read r2
      exact ⟨_, .cons (.int n t) q⟩
theorem cd_max (hc : X.calm = true) (hu : X.A.units + 66 < cLine) : CallR X (.builtin "max") (rC1 b maxD) := by
  intro pins s σ H xs us Q I r ⟨m, F, w, v, d, ex, wf, hr, p⟩
  subst ex
  obtain ⟨d', e, p⟩ := p.lift1
  unfold maxD at e
  split at e
  · rename_i x xs
    obtain ⟨bs, e1, rfl⟩ := Option.map_eq_some_iff.mp e
    obtain ⟨a, vs, rfl, h1, h2⟩ := hr.list
    have ev := h2.ints (ns := x :: bs) (by unfold intsD; rw [e1]; rfl)
    subst ev
    refine cr_max hc pins s σ H _ us Q I r ⟨a, x :: bs, rfl, .inl (.inl h1), Nat.succ_pos _, fun k hk hle => ?_⟩
    obtain ⟨g1, g2⟩ := maxI_spec bs x
    have : k = maxI x bs := Int.le_antisymm (g2 k hk) (hle _ g1)
    subst this
    exact p.here wf (.int _)
  · rename_i x xs
    obtain ⟨bs, e1, rfl⟩ := Option.map_eq_some_iff.mp e
    obtain ⟨a, vs, rfl, h1, h2, h3⟩ := hr.tuple
    have ev := h2.ints (ns := x :: bs) (by unfold intsD; rw [e1]; rfl)
    subst ev
    obtain ⟨its, rv, pl, hz⟩ := I.tuple (X := X) (.inl (.inl h1))
    rw [Vals.ref1 r]
    obtain ⟨as, rd⟩ := ints_read (h := s.heap) rv
    refine PySem.W.max_tuple_data (x := .int x) (xs := bs.map .int) (I.ok.hd hc) pl (by simpa using rd) ⟨fun y hy z hz => ?_, fun y hy => ?_⟩ ?_ fun i v h' tk cs hv rd' hk => ?_
    · obtain ⟨n1, _, rfl⟩ := List.mem_map.mp (show y ∈ (x :: bs).map PyData.int from hy)
      obtain ⟨n2, _, rfl⟩ := List.mem_map.mp (show z ∈ (x :: bs).map PyData.int from hz)
      rfl
    · obtain ⟨n1, _, rfl⟩ := List.mem_map.mp (show y ∈ (x :: bs).map PyData.int from hy)
      exact fun q => nomatch q
    · have e0 : ∀ l : List Int, PyData.depthAll (l.map PyData.int) = 0 := fun l => by
        induction l with
        | nil => rfl
        | cons y l ih => show max 0 _ = 0; rw [ih]; rfl
      rw [show (PyData.int x :: bs.map PyData.int) = (x :: bs).map PyData.int from rfl, e0]
      omega
    · rw [PySem.W.maxD_ints] at rd'
      cases rd'
      refine ⟨.int _, H, I.kept hk, ⟨_, rfl⟩, ?_⟩
      have e3 : bs.foldl max x = maxI x bs := fold_maxI bs x
      rw [e3]
      exact p.here wf (.int _)
  · cases e
theorem reads_all {K : PySem.W.Frag} {pins : List (Addr × Obj)} {s : Shared} {σ : L2.St} {H : Hp} {z : Zt} {m : Mu} {F : Fz} (I : Inv X pins σ H s) : ∀ {vs : List V} {ds : List D} {its : List Value}, Vals vs its → RepAll z m F H vs ds → (∀ d ∈ ds, ok2 d = true) → ∃ as, ReadsAll s.heap its ds as
  | _, _, _, .nil, .nil, _ => ⟨_, .nil⟩
  | _, _, _, .cons r1 r2, .cons h1 h2, ho => by
    obtain ⟨as, q⟩ := reads_all (K := K) I r2 h2 fun d hd => ho d (List.mem_cons_of_mem _ hd)
    obtain ⟨bs, q'⟩ := Dp.reads I _ _ _ (h1.dp (K := X.K) (SeqAt.canLay_of_shaped (ho _ List.mem_cons_self))) r1
    exact ⟨_, .cons q' q⟩
theorem minT_mem : ∀ (x : D) (xs : List D), minT x xs ∈ x :: xs
  | x, [] => List.mem_cons_self
  | x, y :: xs => by
    have := minT_mem (if PySem.W.dataLt y x then y else x) xs
    show minT (if PySem.W.dataLt y x then y else x) xs ∈ _
    rcases List.mem_cons.mp this with e | h
    · rw [e]
      split
      · exact List.mem_cons_of_mem _ List.mem_cons_self
      · exact List.mem_cons_self
    · exact List.mem_cons_of_mem _ (List.mem_cons_of_mem _ h)
theorem depthAll_le {n : Nat} : ∀ {xs : List D}, (∀ d ∈ xs, d.depth ≤ n) → PyData.depthAll xs ≤ n
  | [], _ => Nat.zero_le _
  | x :: xs, h => Nat.max_le.mpr ⟨h x List.mem_cons_self, depthAll_le fun d hd => h d (List.mem_cons_of_mem _ hd)⟩
theorem rep_at {z : Zt} {m : Mu} {F : Fz} {H : Hp} : ∀ {vs : List V} {ds : List D} {its : List Value}, Vals vs its → RepAll z m F H vs ds → ∀ {i : Nat} {v : Value}, its[i]? = some v → ∃ d y, vs[i]? = some y ∧ ds[i]? = some d ∧ RelV y v ∧ Rep z m F H y d
  | _, _, _, .nil, .nil, i, v, e => by simp at e
  | _, _, _, .cons r1 r2, .cons h1 h2, 0, v, e => by
    cases e
    exact ⟨_, _, rfl, rfl, r1, h1⟩
  | _, _, _, .cons r1 r2, .cons h1 h2, i + 1, v, e => by
    obtain ⟨d, y, q1, q2, q3, q4⟩ := rep_at r2 h2 (i := i) (v := v) (by simpa using e)
    exact ⟨d, y, by simpa using q1, by simpa using q2, q3, q4⟩
theorem cd_min (hc : X.calm = true) (hu : X.A.units + 66 < cLine) : CallR X (.builtin "min") (rC1 b minD) := by
  intro pins s σ H xs us Q I r ⟨m, F, w, v, d, ex, wf, hr, p⟩
  subst ex
  obtain ⟨d', e, p⟩ := p.lift1
  unfold minD at e
  split at e
  · rename_i x xs
    obtain ⟨bs, e1, rfl⟩ := Option.map_eq_some_iff.mp e
    obtain ⟨a, vs, rfl, h1, h2⟩ := hr.list
    have ev := h2.ints (ns := x :: bs) (by unfold intsD; rw [e1]; rfl)
    subst ev
    refine cr_min hc pins s σ H _ us Q I r ⟨a, x :: bs, rfl, .inl (.inl h1), Nat.succ_pos _, fun k hk hle => ?_⟩
    obtain ⟨g1, g2⟩ := minI_spec bs x
    have : k = minI x bs := Int.le_antisymm (hle _ g1) (g2 k hk)
    subst this
    exact p.here wf (.int _)
  · rename_i x xs
    split at e
    · rename_i hk
      cases e
      simp only [mnOk, Bool.and_eq_true] at hk
      obtain ⟨⟨k1, k2⟩, k3⟩ := hk
      simp only [List.all_eq_true] at k1 k2 k3
      obtain ⟨a, vs, rfl, h1, h2⟩ := hr.list
      obtain ⟨its, rv, pl, hz⟩ := I.list (X := X) (.inl (.inl h1))
      rw [Vals.ref1 r]
      obtain ⟨as, rd⟩ := reads_all (K := X.K) I rv h2 k3
      refine PySem.W.min_list_data (x := .tuple x) (xs := xs) (I.ok.hd hc) pl.isList (by simpa using rd) ⟨fun y hy z hz => k1 y hy z hz, fun y hy q => ?_⟩ ?_ fun i v h' tk cs hv rd' hkp => ?_
      · have := k2 y hy
        rw [q] at this
        cases this
      · have : PyData.depthAll (PyData.tuple x :: xs) ≤ 64 := depthAll_le fun d hd => by
          have := SeqAt.depth_of_shaped (k3 d hd)
          omega
        omega
      · have hv : its[i]? = some v := by simpa using hv
        obtain ⟨d, y, e1, e2, e3, e4⟩ := rep_at rv h2 hv
        have hdm : d ∈ (PyData.tuple x :: xs) := List.mem_of_getElem? e2
        obtain ⟨bs, q'⟩ := Dp.reads I _ _ _ (e4.dp (K := X.K) (SeqAt.canLay_of_shaped (k3 _ hdm))) e3
        have ed : d = minT (.tuple x) xs := PySem.W.alike_unique _ _ _ _ _ (k1 _ hdm _ (minT_mem _ _)) (PyProof.Rows.Reads.keeps hkp q') rd'
        refine ⟨y, H, I.kept hkp, e3, ?_⟩
        rw [← ed] at p
        exact p.here wf e4
    · cases e
  · cases e
theorem cd_abs : CallR X (.builtin "abs") (rC1 b absD) := by
  intro pins s σ H xs us Q I r ⟨m, F, w, v, d, ex, wf, hr, p⟩
  subst ex
  obtain ⟨d', e, p⟩ := p.lift1
  unfold absD at e
  split at e
  · cases e
    have ev := hr.int
    subst ev
    exact call_abs pins s σ H _ us Q I r ⟨_, rfl, p.here wf (.int _)⟩
  · cases e
theorem cd_tuple : CallR X (.type "tuple") (rC1 b tupleD) := by
  intro pins s σ H xs us Q I r ⟨m, F, w, v, d, ex, wf, hr, p⟩
  subst ex
  obtain ⟨d', e, p⟩ := p.lift1
  unfold tupleD at e
  split at e
  · cases e
    obtain ⟨a, vs, rfl, h1, h2⟩ := hr.list
    exact call_tuple_of pins s σ H _ us Q I r ⟨a, vs, rfl, .inl ⟨.inl (.inl h1), p.tup wf h2⟩⟩
  · cases e
    obtain ⟨a, vs, rfl, h1, h2, h3⟩ := hr.tuple
    exact call_tuple_of pins s σ H _ us Q I r ⟨a, vs, rfl, .inr ⟨.inl (.inl h1), p.here wf (.tup h3 h1 h2)⟩⟩
  · cases e
/-- list(d): the keys -/
theorem n_list (hc : X.calm = true) {z : Zt} {m : Mu} {F : Fz} {pins : List (Addr × Obj)} {σ : L2.St} {H : Hp} {s : Shared} {E : Value → Shared → Prop} {ds : List (D × D)} (hw : z.wd = X.w) (I : Inv X pins σ H s) {x : V} {v : Value} (rx : RelV x v) (hx : RepR z m F H x (.dict ds)) (hd : (ds.all fun p => tkOk p.1) = true) {Q : Value → Shared → Prop}
    (q : ∀ vs q s', Inv X pins σ (upd H q (.lst vs)) s' → RepAll z m F H vs (ds.map (·.1)) → H q = none → Q (.ref q) s') : wpAny (model X.prog X.w) X.A (call (.type "list") [v]) Q E s := by
  obtain ⟨a, xs, rfl, dv⟩ := hx.view hd I.hok hw
  cases rx
  obtain ⟨o, es, ep, g1, g2, g3, g4, g5, g6⟩ := dv.dd
  have hl := dv.rel.len
  have hes : es.size = xs.length := by
    have := congrArg List.length g4
    simpa using this
  refine PySem.W.kdl_call (kdl_raw dv.sm g2 g3) (I.ok.hd hc) g1 (by rw [hes]; exact dv.sz) fun h' tk acc c' hk hS hacc => ?_
  obtain ⟨vs, rv, ra⟩ := DV.keys (h := s.heap) (P := X.prog) (w := X.w) (a := a) dv.rel hacc (by rw [g4, List.map_map]; rfl)
  have hn : H s.heap.objs.size = none := I.hok.fresh (Nat.le_refl _)
  refine q vs _ _ (I.laid (t' := tk) hk (Nat.le_refl _) ⟨?_, acc.toList, c', rv, by simpa using hS⟩) ra hn
  rw [ra.length, List.length_map, ← hl]
  exact dv.sz
theorem cd_list (hc : X.calm = true) (hw : b.z.wd = X.w) : CallR X (.type "list") (rC1 b listD) := by
  intro pins s σ H xs us Q I r ⟨m, F, w, v, d, ex, wf, hr, p⟩
  subst ex
  obtain ⟨d', e, p⟩ := p.lift1
  unfold listD at e
  split at e
  · cases e
    obtain ⟨a, vs, rfl, h1, h2⟩ := hr.list
    exact call_list_of pins s σ H _ us Q I r ⟨a, vs, rfl, .inl (.inl (.inl h1)), p.lst wf h2⟩
  · cases e
    obtain ⟨a, vs, rfl, h1, h2, h3⟩ := hr.tuple
    exact call_list_of pins s σ H _ us Q I r ⟨a, vs, rfl, .inr (.inl (.inl h1)), p.lst wf h2⟩
  · split at e
    · rename_i kvs hk
      cases e
      obtain ⟨u, rfl, rx⟩ := vals1 r
      exact n_list hc hw I rx hr hk fun vs q s' I' ra hq => ⟨.ref q, _, I', rfl, p.lst wf ra q hq⟩
    · cases e
  · cases e

/-! ### isinstance -/
def tyN : Ty → String
  | .int => "int"
  | .bool => "bool"
  | .tuple => "tuple"
  | .str => "str"
theorem isi_ty {z : Zt} {m : Mu} {F : Fz} {H : Hp} {K : PySem.W.Frag} {v : V} {d : D} {t : Ty} {c : Bool} (hr : RepR z m F H v d) (e : isiD t d = some c) : ∃ tv, TyX K H v tv ∧ PySem.W.kitOne K tv (.type (tyN t)) = some c := by
  cases d with
  | none =>
    have ev := hr.non
    subst ev
    refine ⟨_, .base .non, kit_ty ?_⟩
    cases t <;> cases e <;> decide +kernel
  | bool i =>
    have ev := hr.bool
    subst ev
    refine ⟨_, .base (.bl _), kit_ty ?_⟩
    cases t <;> cases e <;> decide +kernel
  | int i =>
    have ev := hr.int
    subst ev
    refine ⟨_, .base (.int _), kit_ty ?_⟩
    cases t <;> cases e <;> decide +kernel
  | str i =>
    have ev := hr.str
    subst ev
    refine ⟨_, .base (.str _), kit_ty ?_⟩
    cases t <;> cases e <;> decide +kernel
  | list i =>
    obtain ⟨a, vs, rfl, h1, h2⟩ := hr.list
    refine ⟨_, .base (.lst h1), kit_ty ?_⟩
    cases t <;> cases e <;> decide +kernel
  | tuple i =>
    obtain ⟨a, vs, rfl, h1, h2, _⟩ := hr.tuple
    refine ⟨_, .base (.tup h1), kit_ty ?_⟩
    cases t <;> cases e <;> decide +kernel
  | dict i => cases t <;> cases e
def rIsD (b : Bx) (t : Ty) : List V → Hp → VK → Prop := fun vs H Q => ∃ m F w v d, vs = [v, .ty (tyN t)] ∧ Wf b.z m F w H ∧ RepR b.z m F H v d ∧ Post b m F H (bnd (lift (isiD t d)) (fun c => ret (.bool c)) w) (Rep b.z) Q
theorem cd_isi {t : Ty} : CallR X (.builtin "isinstance") (rIsD b t) := by
  intro pins s σ H xs us Q I r ⟨m, F, w, v, d, ex, wf, hr, p⟩
  subst ex
  obtain ⟨c, e, p⟩ := p.lift
  obtain ⟨tv, h1, h2⟩ := isi_ty (K := X.K) hr e
  exact call_isi pins s σ H _ us Q I r ⟨v, .ty (tyN t), tv, .type (tyN t), c, rfl, .ty _, h1, h2, Post.here (d := .bool c) p wf (.bl _)⟩

/-! ### items, slices -/
theorem ixI_eq (n : Nat) (i : Int) : ixI n i = ixN n i := rfl
theorem tail_of {prog : Program} {w : World} {A : Around} {E : Value → Shared → Prop} {s : Shared} {value slice : Expr} {T id : String} {o i : Value} {Q : Value → Shared → Prop}
    (hl : typeLookup (.type T) "__getitem__" = pure (some (.builtin id))) (hT : s.TypeIs o T) (hs : subscripted slice false o i = operate [o, i] (getItem o i))
    (h : wpAny (model prog w) A (getItem o i) Q E s) : wpAny (model prog w) A (subscriptTail value slice o i) Q E s := by
  unfold subscriptTail
  refine wpAny_bind ?_
  rw [getitemInPython_of_ne hT.not_modules]
  refine wpAny_bind (wpAny_specialOf hT hl ?_)
  have fin : wpAny (model prog w) A (subscripted slice false o i) (fun r s₃ => wpAny (model prog w) A (letTemporaryGo value o r >>= fun _ => pure r) Q E s₃) E s := by
    rw [hs]
    exact wpAny_operating (wpAny_mono h (fun r s₃ h₃ => wpAny_bind (wpAny_letTemporaryGo (wpAny_pure h₃))) fun _ _ x => x)
  first
    | exact wpAny_pure (wpAny_bind fin)
    | exact wpAny_bind (wpAny_pure (wpAny_bind fin))
    | exact wpAny_bind fin
theorem id_ix (hu : X.A.units + 10 < cLine) (hw : b.z.wd = X.w) : IxR X (rOp b ixD) := by
  intro value slice pins s σ H x y v u Q I rx ry ⟨m, F, w, dx, dy, wf, hx, hy, p⟩ hs
  obtain ⟨d, e, pp⟩ := p.lift1
  clear p
  unfold ixD at e
  split at e
  · obtain ⟨j, e1, e2⟩ := Option.bind_eq_some_iff.mp e
    obtain ⟨a, vs, rfl, h1, h2⟩ := hx.list
    obtain ⟨v', g1, g2⟩ := h2.get e2
    have ey := hy.int
    subst ey
    exact ix_list value slice pins s σ H _ _ v u Q I rx ry ⟨a, vs, _, v', rfl, rfl, .inl (.inl h1), by unfold atI; rw [h2.length, ← ixI_eq, e1]; exact g1, pp.here wf g2⟩ hs
  · obtain ⟨j, e1, e2⟩ := Option.bind_eq_some_iff.mp e
    obtain ⟨a, vs, rfl, h1, h2, _⟩ := hx.tuple
    obtain ⟨v', g1, g2⟩ := h2.get e2
    have ey := hy.int
    subst ey
    exact ix_tup value slice pins s σ H _ _ v u Q I rx ry ⟨a, vs, _, v', rfl, rfl, .inl (.inl h1), by unfold atI; rw [h2.length, ← ixI_eq, e1]; exact g1, pp.here wf g2⟩ hs
  · split at e
    · rename_i hm
      simp only [kyOk, Bool.or_eq_true, Bool.and_eq_true] at hm
      rcases hm with hm | hm
      · obtain ⟨k, rfl⟩ := keyOk_key hm.1
        have ey := hy.key
        subst ey
        obtain ⟨a, ks, rfl, h1, h2⟩ := hx.dict hm.2
        cases rx
        have hl := h2.look k
        rw [e] at hl
        cases q : valV ks k with
        | none => rw [q] at hl; exact hl.elim
        | some v' =>
          rw [q] at hl
          have g : DGet H a (kV k) (some v') := .inl ⟨ks, k, h1, rfl, q.symm⟩
          exact tail_of PySem.F.slot_dict_getitem.lookup (dict_typeIs I g) hs (d_getItem (by omega) I g ry fun w' s' I' rw' => ⟨v', H, I', rw', pp.here wf hl⟩)
      · obtain ⟨ty, wp⟩ := n_get (by omega) hw I rx ry hx hy hm.1 hm.2 e (E := X.xe) (Q := EP X pins σ Q) fun v' w' s' I' rw' r' => ⟨v', H, I', rw', pp.here wf r'⟩
        exact tail_of PySem.F.slot_dict_getitem.lookup ty hs wp
    · cases e
  · cases e
theorem slI_eq (n d : Nat) (o : Option Int) : slI n d o = HT.sIx n d o := by
  cases o with
  | none => rfl
  | some v =>
    have := HT.clip_eq v n d
    show (if v < 0 then (v + n).toNat else min v.toNat n) = _
    by_cases h : v < 0
    · rw [if_pos h] at this ⊢
      omega
    · rw [if_neg h] at this ⊢
      omega
theorem RepAll.cut {z : Zt} {m : Mu} {F : Fz} {H : Hp} {vs : List V} {ds : List D} (h : RepAll z m F H vs ds) (lo hi : Option Int) : RepAll z m F H (cutV vs lo hi) (cutD ds lo hi) := by
  unfold cutV cutD
  rw [h.length, slI_eq, slI_eq]
  exact (h.drop _).take _
theorem sd_seq : L2.SlR X (fun x lo hi H Q => ∃ m F w dx, Wf b.z m F w H ∧ RepR b.z m F H x dx ∧ Post b m F H (lift (slD dx lo hi) w) (Rep b.z) Q) := by
  intro pins s σ H x v vl vu lo hi sl Q I rx hs pl pu ⟨m, F, w, dx, wf, hx, p⟩
  obtain ⟨d, e, p⟩ := p.lift1
  unfold slD at e
  split at e
  · cases e
    obtain ⟨a, vs, rfl, h1, h2⟩ := hx.list
    exact sl_list pins s σ H _ v vl vu lo hi sl Q I rx hs pl pu ⟨a, vs, rfl, .inl (.inl h1), p.lst wf (h2.cut lo hi)⟩
  · cases e
    obtain ⟨a, vs, rfl, h1, h2, h3⟩ := hx.tuple
    refine sl_tupA pins s σ H _ v vl vu lo hi sl Q I rx hs pl pu ⟨a, vs, rfl, .inl (.inl h1), fun hw => ?_, fun _ => p.tup wf (h2.cut lo hi)⟩
    have hcut := h2.cut lo hi
    have ec : cutV vs lo hi = vs := by
      unfold cutV
      rw [hw.1, hw.2, List.drop_zero, Nat.sub_zero, List.take_length]
    rw [ec] at hcut
    exact p.here wf (.tup h3 h1 hcut)
  · cases e

/-! ### truth -/
theorem td_truth (hw : b.z.wd = X.w) : TruR X (fun x H Q => ∃ m F w dx, Wf b.z m F w H ∧ RepR b.z m F H x dx ∧ Post b m F H (lift (truD dx) w) EqL Q) := by
  intro pins s σ H x v Q I rx ⟨m, F, w, dx, wf, hx, p⟩
  obtain ⟨c, e, p⟩ := p.lift1
  have pp : Q c H := p m F H c (Fm.refl _ _ _) wf rfl
  clear p
  unfold truD at e
  split at e
  · cases e
    have ev := hx.non
    subst ev
    exact tru_ok pins s σ H _ v Q I rx ⟨_, rfl, pp⟩
  · cases e
    have ev := hx.bool
    subst ev
    exact tru_ok pins s σ H _ v Q I rx ⟨_, rfl, pp⟩
  · cases e
    have ev := hx.int
    subst ev
    exact tru_ok pins s σ H _ v Q I rx ⟨_, rfl, pp⟩
  · cases e
    obtain ⟨a, vs, rfl, h1, h2⟩ := hx.list
    refine tru_ok pins s σ H _ v Q I rx ⟨_, .inl ⟨vs, .inl (.inl h1), ?_⟩, pp⟩
    cases h2 <;> rfl
  · cases e
    obtain ⟨a, vs, rfl, h1, h2, _⟩ := hx.tuple
    refine tru_ok pins s σ H _ v Q I rx ⟨_, .inr (.inl ⟨vs, .inl (.inl h1), ?_⟩), pp⟩
    cases h2 <;> rfl
  · split at e
    · rename_i hk
      simp only [kdOk, Bool.or_eq_true] at hk
      cases e
      rcases hk with hk | hk
      · obtain ⟨a, ks, rfl, h1, h2⟩ := hx.dict hk
        cases rx
        refine d_truth I h1 fun s' I' => ⟨H, I', ?_⟩
        cases h2 <;> exact pp
      · exact n_tru hw I rx hx hk fun s' I' => ⟨H, I', pp⟩
    · cases e
  · cases e
end
end Ev

set_option Elab.async false
set_option linter.all false
set_option maxRecDepth 100000
set_option autoImplicit false
/-! EvS5: expressions and tests, node by node. -/
namespace Ev
open PySem PySem.Spec PyProof.Rows L2

section
variable {X : Cx} {b : Bx} {cf : CF} {a c e : Expr} {ca cb cc : E} {pos : Pos}
/-- two expressions, then an operator -/
theorem op_pre {f : D → D → Option D} {σ : L2.St} {H : Hp} {Q : VK} (h : rd b (Rep b.z) (fun s => bnd (evE cf ca s) fun x => bnd (evE cf cb s) fun y => lift (f x y)) σ H Q) :
    tOp (rOp b f) (rR b (evE cf ca)) (rR b (evE cf cb)) σ H Q := by
  obtain ⟨m, F, s, w, wf, sl, p⟩ := h
  refine ⟨m, F, s, w, wf, sl, (p.bind).imp fun x H1 ⟨m1, F1, dx, w1, f1, wf1, r1, p1⟩ => ?_⟩
  refine ⟨m1, F1, s, w1, wf1, sl.fm wf f1, (p1.bind).imp fun y H2 ⟨m2, F2, dy, w2, f2, wf2, r2, p2⟩ => ?_⟩
  exact ⟨m2, F2, w2, dx, dy, wf2, wf1.rr r1 f2, r2, p2⟩
theorem se_op {op : Operator} {o : Op2} (ho : OpR X (binaryOp op) (rOp b (opD o))) (ha : PE X a (rR b (evE cf ca))) (hb : PE X c (rR b (evE cf cb))) : PE X (.BinOp a op c pos) (rE b (evE cf (.op o ca cb))) :=
  (pe_op ho ha hb).imp fun σ H Q h => op_pre (by simpa only [evE] using h)
theorem se_cmp {op : CmpOp} {o : Op2} (ho : OpR X (compareOp op) (rOp b (opD o))) (ha : PE X a (rR b (evE cf ca))) (hb : PE X c (rR b (evE cf cb))) (hm : behindInMarks op c = false) : PE X (.Compare a [op] [c] pos) (rE b (evE cf (.op o ca cb))) :=
  (pe_cmpR ho ha hb hm).imp fun σ H Q h => op_pre (by simpa only [evE] using h)
/-- from a test's end to a value's end -/
theorem Post.test {m : Mu} {F : Fz} {H : Hp} {w : W} {o : Option D} {Q : Bool → Hp → Prop} (p : Post b m F H (Ev.lift (o.bind boolD) w) EqL Q) : Post b m F H (Ev.lift o w) (Rep b.z) (fun x H' => ∃ k, x = .bl k ∧ Q k H') := by
  cases o with
  | none => exact p.elim
  | some d =>
    cases d with
    | bool k =>
      intro m' F' H' v f wf r
      cases r
      exact ⟨k, rfl, p m' F' H' k f wf rfl⟩
    | _ => exact p.elim
theorem st_cmp {op : CmpOp} {o : Op2} (ho : OpR X (compareOp op) (rOp b (opD o))) (ha : PE X a (rR b (evE cf ca))) (hb : PE X c (rR b (evE cf cb))) (hm : behindInMarks op c = false) : PT X (.Compare a [op] [c] pos) (rT b (evT cf (.cmp o ca cb))) :=
  (pt_cmpR ho ha hb hm).imp fun σ H Q ⟨m, F, s, w, wf, sl, p⟩ => by
    have p : Post b m F H (bnd (evE cf ca s) (fun x => bnd (evE cf cb s) fun y => lift ((opD o x y).bind boolD)) w) EqL Q := by simpa only [evT] using p
    refine ⟨m, F, s, w, wf, sl, (p.bind).imp fun x H1 ⟨m1, F1, dx, w1, f1, wf1, r1, p1⟩ => ?_⟩
    refine ⟨m1, F1, s, w1, wf1, sl.fm wf f1, (p1.bind).imp fun y H2 ⟨m2, F2, dy, w2, f2, wf2, r2, p2⟩ => ?_⟩
    exact ⟨m2, F2, w2, dx, dy, wf2, wf1.rr r1 f2, r2, p2.test⟩
/-- the first link of a chain -/
theorem Post.link {α β : Type} {m : Mu} {F : Fz} {H : Hp} {w : W} {o : Option D} {k : Bool → M α} {Rl : Mu → Fz → Hp → β → α → Prop} {Q : β → Hp → Prop} (wf : Wf b.z m F w H) (p : Post b m F H (bnd (Ev.lift (o.bind boolD)) k w) Rl Q) :
    Post b m F H (Ev.lift o w) (Rep b.z) (fun x H' => ∃ c, x = .bl c ∧ ∃ m' F' w', Fm m F H m' F' H' ∧ Wf b.z m' F' w' H' ∧ Post b m' F' H' (k c w') Rl Q) := by
  cases o with
  | none => exact p.elim
  | some d =>
    cases d with
    | bool c =>
      intro m' F' H' v f wf' r
      cases r
      exact ⟨c, rfl, m', F', _, f, wf', Post.after (r := k c w) p f⟩
    | _ => exact p.elim
theorem se_chain {op op' : CmpOp} {o o' : Op2} (ho : OpR X (compareOp op) (rOp b (opD o))) (ho' : OpR X (compareOp op') (rOp b (opD o'))) (ha : PE X a (rR b (evE cf ca))) (hb : PE X c (rR b (evE cf cb))) (hc : PE X e (rR b (evE cf cc))) (hm : lastMarks [op, op'] [c, e] = false) :
    PE X (.Compare a [op, op'] [c, e] pos) (rE b (evE cf (.chain o o' ca cb cc))) :=
  (pe_chain ho ho' ha hb hc hm).imp fun σ H Q ⟨m, F, s, w, wf, sl, p⟩ => by
    have p : Post b m F H (bnd (evE cf ca s) (fun x => bnd (evE cf cb s) fun y => bnd (lift ((opD o x y).bind boolD)) fun k => if k then (bnd (evE cf cc s) fun z => lift (opD o' y z)) else ret (.bool false)) w) (Rep b.z) Q := by simpa only [evE] using p
    refine ⟨m, F, s, w, wf, sl, (p.bind).imp fun x H1 ⟨m1, F1, dx, w1, f1, wf1, r1, p1⟩ => ?_⟩
    refine ⟨m1, F1, s, w1, wf1, sl.fm wf f1, (p1.bind).imp fun y H2 ⟨m2, F2, dy, w2, f2, wf2, r2, p2⟩ => ?_⟩
    refine ⟨m2, F2, w2, dx, dy, wf2, wf1.rr r1 f2, r2, (Post.link wf2 p2).imp fun v H3 ⟨k, e, m3, F3, w3, f3, wf3, p3⟩ => ?_⟩
    refine ⟨k, e, ?_⟩
    cases k with
    | true =>
      refine iteT ⟨m3, F3, s, w3, wf3, (sl.fm wf (f1.trans (f2.trans f3))), (Post.bind (k := fun z => lift (opD o' dy z)) p3).imp fun z H4 ⟨m4, F4, dz, w4, f4, wf4, r4, p4⟩ => ?_⟩
      exact ⟨m4, F4, w4, dy, dz, wf4, wf3.rr (wf2.rr r2 f3) f4, r4, p4⟩
    | false => exact iteF (p3 m3 F3 H3 _ (Fm.refl _ _ _) wf3 (.bl _))
theorem st_chain {op op' : CmpOp} {o o' : Op2} (ho : OpR X (compareOp op) (rOp b (opD o))) (ho' : OpR X (compareOp op') (rOp b (opD o'))) (ha : PE X a (rR b (evE cf ca))) (hb : PE X c (rR b (evE cf cb))) (hc : PE X e (rR b (evE cf cc))) (hm : lastMarks [op, op'] [c, e] = false) :
    PT X (.Compare a [op, op'] [c, e] pos) (rT b (evT cf (.chain o o' ca cb cc))) :=
  (pt_chain ho ho' ha hb hc hm).imp fun σ H Q ⟨m, F, s, w, wf, sl, p⟩ => by
    have p : Post b m F H (bnd (evE cf ca s) (fun x => bnd (evE cf cb s) fun y => bnd (lift ((opD o x y).bind boolD)) fun k => if k then (bnd (evE cf cc s) fun z => lift ((opD o' y z).bind boolD)) else ret false) w) EqL Q := by simpa only [evT] using p
    refine ⟨m, F, s, w, wf, sl, (p.bind).imp fun x H1 ⟨m1, F1, dx, w1, f1, wf1, r1, p1⟩ => ?_⟩
    refine ⟨m1, F1, s, w1, wf1, sl.fm wf f1, (p1.bind).imp fun y H2 ⟨m2, F2, dy, w2, f2, wf2, r2, p2⟩ => ?_⟩
    refine ⟨m2, F2, w2, dx, dy, wf2, wf1.rr r1 f2, r2, (Post.link wf2 p2).imp fun v H3 ⟨k, e, m3, F3, w3, f3, wf3, p3⟩ => ?_⟩
    refine ⟨k, e, ?_⟩
    cases k with
    | true =>
      refine iteT ⟨m3, F3, s, w3, wf3, (sl.fm wf (f1.trans (f2.trans f3))), (Post.bind (k := fun z => lift ((opD o' dy z).bind boolD)) p3).imp fun z H4 ⟨m4, F4, dz, w4, f4, wf4, r4, p4⟩ => ?_⟩
      exact ⟨m4, F4, w4, dy, dz, wf4, wf3.rr (wf2.rr r2 f3) f4, r4, p4.test⟩
    | false => exact iteF ⟨false, rfl, p3 m3 F3 H3 _ (Fm.refl _ _ _) wf3 rfl⟩
theorem intD_some {d : D} {k : Int} (h : intD d = some k) : d = .int k := by
  cases d with
  | int j => cases h; rfl
  | _ => cases h
/-- -a -/
theorem se_neg (ha : PE X a (rR b (evE cf ca))) : PE X (.UnaryOp .USub a pos) (rE b (evE cf (.neg ca))) :=
  (pe_un un_neg ha).imp fun σ H Q ⟨m, F, s, w, wf, sl, p⟩ => by
    have p : Post b m F H (bnd (evE cf ca s) (fun x => bnd (lift (intD x)) fun i => ret (.int (-i))) w) (Rep b.z) Q := by simpa only [evE] using p
    refine ⟨m, F, s, w, wf, sl, (p.bind).imp fun x H1 ⟨m1, F1, dx, w1, f1, wf1, r1, p1⟩ => ?_⟩
    obtain ⟨i, ei, p2⟩ := p1.lift
    have e1 := intD_some ei
    subst e1
    exact ⟨i, r1.int, Post.here (d := .int (-i)) p2 wf1 (.int _)⟩
theorem boolD_some {d : D} {k : Bool} (h : boolD d = some k) : d = .bool k := by
  cases d with
  | bool j => cases h; rfl
  | _ => cases h
/-- a and b, a or b, as values -/
theorem se_and {xs : List Expr} (ha : PE X a (rR b (evE cf ca))) (hb : PE X (.BoolOp .And (c :: xs) pos) (rE b (evE cf cb))) : PE X (.BoolOp .And (a :: c :: xs) pos) (rE b (evE cf (.and ca cb))) :=
  (pe_and ha hb).imp fun σ H Q ⟨m, F, s, w, wf, sl, p⟩ => by
    have p : Post b m F H (bnd (evE cf ca s) (fun x => bnd (lift (boolD x)) fun k => if k then evE cf cb s else ret (.bool false)) w) (Rep b.z) Q := by simpa only [evE] using p
    refine ⟨m, F, s, w, wf, sl, (p.bind).imp fun x H1 ⟨m1, F1, dx, w1, f1, wf1, r1, p1⟩ => ?_⟩
    obtain ⟨k, ek, p2⟩ := p1.lift
    have ed := boolD_some ek
    subst ed
    refine ⟨k, r1.bool, ?_⟩
    cases k with
    | true => exact iteT ⟨m1, F1, s, w1, wf1, sl.fm wf f1, p2⟩
    | false => exact iteF (Post.here (d := .bool false) p2 wf1 (.bl _))
theorem se_or {xs : List Expr} (ha : PE X a (rR b (evE cf ca))) (hb : PE X (.BoolOp .Or (c :: xs) pos) (rE b (evE cf cb))) : PE X (.BoolOp .Or (a :: c :: xs) pos) (rE b (evE cf (.or ca cb))) :=
  (pe_or ha hb).imp fun σ H Q ⟨m, F, s, w, wf, sl, p⟩ => by
    have p : Post b m F H (bnd (evE cf ca s) (fun x => bnd (lift (boolD x)) fun k => if k then ret (.bool true) else evE cf cb s) w) (Rep b.z) Q := by simpa only [evE] using p
    refine ⟨m, F, s, w, wf, sl, (p.bind).imp fun x H1 ⟨m1, F1, dx, w1, f1, wf1, r1, p1⟩ => ?_⟩
    obtain ⟨k, ek, p2⟩ := p1.lift
    have ed := boolD_some ek
    subst ed
    refine ⟨k, r1.bool, ?_⟩
    cases k with
    | true => exact iteT (Post.here (d := .bool true) p2 wf1 (.bl _))
    | false => exact iteF ⟨m1, F1, s, w1, wf1, sl.fm wf f1, p2⟩
theorem se_not (ha : PE X a (rR b (evE cf ca))) : PE X (.UnaryOp .Not a pos) (rE b (evE cf (.not ca))) :=
  (pe_not ha).imp fun σ H Q ⟨m, F, s, w, wf, sl, p⟩ => by
    have p : Post b m F H (bnd (evE cf ca s) (fun x => bnd (lift (boolD x)) fun k => ret (.bool (!k))) w) (Rep b.z) Q := by simpa only [evE] using p
    refine ⟨m, F, s, w, wf, sl, (p.bind).imp fun x H1 ⟨m1, F1, dx, w1, f1, wf1, r1, p1⟩ => ?_⟩
    obtain ⟨k, ek, p2⟩ := p1.lift
    have ed := boolD_some ek
    subst ed
    exact ⟨k, r1.bool, Post.here (d := .bool (!k)) p2 wf1 (.bl _)⟩
theorem se_ite {t : T} (ht : PT X e (rT b (evT cf t))) (ha : PE X a (rE b (evE cf ca))) (hb : PE X c (rE b (evE cf cb))) : PE X (.IfExp e a c pos) (rE b (evE cf (.ite t ca cb))) :=
  (pe_ifExp ht ha hb).imp fun σ H Q ⟨m, F, s, w, wf, sl, p⟩ => by
    have p : Post b m F H (bnd (evT cf t s) (fun k => if k then evE cf ca s else evE cf cb s) w) (Rep b.z) Q := by simpa only [evE] using p
    refine ⟨m, F, s, w, wf, sl, (p.bind).imp fun k H1 ⟨m1, F1, k', w1, f1, wf1, r1, p1⟩ => ?_⟩
    cases (show k = k' from r1)
    cases k with
    | true => exact iteT ⟨m1, F1, s, w1, wf1, sl.fm wf f1, p1⟩
    | false => exact iteF ⟨m1, F1, s, w1, wf1, sl.fm wf f1, p1⟩

/-! ### tests -/
theorem st_val (hw : b.z.wd = X.w) (ha : PE X a (rR b (evE cf ca))) (he : ∀ whole, isTrue a X.env whole = (do let v ← whole; standAt a.pos; holding [v] (truthy v))) : PT X a (rT b (evT cf (.val ca))) := by
  refine ⟨fun pins s σ H Q I h => ?_⟩
  obtain ⟨m, F, s', w, wf, sl, p⟩ := h
  have p : Post b m F H (bnd (evE cf ca s') (fun x => lift (truD x)) w) EqL Q := by simpa only [evT] using p
  refine isTrue_plain (thn (ha.run pins s σ H _ I ⟨m, F, s', w, wf, sl, p.bind⟩) fun v s1 ⟨x, H1, I1, r1, m1, F1, dx, w1, f1, wf1, rx, p1⟩ => ?_) (he _)
  exact td_truth hw pins s1 σ H1 x v Q I1 r1 ⟨m1, F1, w1, dx, wf1, rx, p1⟩
theorem st_not {t : T} (ht : PT X a (rT b (evT cf t))) : PT X (.UnaryOp .Not a pos) (rT b (evT cf (.not t))) :=
  (pt_not ht).imp fun σ H Q ⟨m, F, s, w, wf, sl, p⟩ => by
    have p : Post b m F H (bnd (evT cf t s) (fun k => ret (!k)) w) EqL Q := by simpa only [evT] using p
    refine ⟨m, F, s, w, wf, sl, (p.bind).imp fun k H1 ⟨m1, F1, k', w1, f1, wf1, r1, p1⟩ => ?_⟩
    cases (show k = k' from r1)
    exact p1 m1 F1 H1 _ (Fm.refl _ _ _) wf1 rfl
theorem sw_and {t u : T} {xs : List Expr} (ht : PT X a (rT b (evT cf t))) (hu : PW X (.BoolOp .And (c :: xs) pos) (rT b (evT cf u))) : PW X (.BoolOp .And (a :: c :: xs) pos) (rT b (evT cf (.and t u))) :=
  (pw_and ht hu).imp fun σ H Q ⟨m, F, s, w, wf, sl, p⟩ => by
    have p : Post b m F H (bnd (evT cf t s) (fun k => if k then evT cf u s else ret false) w) EqL Q := by simpa only [evT] using p
    refine ⟨m, F, s, w, wf, sl, (p.bind).imp fun k H1 ⟨m1, F1, k', w1, f1, wf1, r1, p1⟩ => ?_⟩
    cases (show k = k' from r1)
    cases k with
    | true => exact iteT ⟨m1, F1, s, w1, wf1, sl.fm wf f1, p1⟩
    | false => exact iteF (p1 m1 F1 H1 _ (Fm.refl _ _ _) wf1 rfl)
theorem sw_or {t u : T} {xs : List Expr} (ht : PT X a (rT b (evT cf t))) (hu : PW X (.BoolOp .Or (c :: xs) pos) (rT b (evT cf u))) : PW X (.BoolOp .Or (a :: c :: xs) pos) (rT b (evT cf (.or t u))) :=
  (pw_or ht hu).imp fun σ H Q ⟨m, F, s, w, wf, sl, p⟩ => by
    have p : Post b m F H (bnd (evT cf t s) (fun k => if k then ret true else evT cf u s) w) EqL Q := by simpa only [evT] using p
    refine ⟨m, F, s, w, wf, sl, (p.bind).imp fun k H1 ⟨m1, F1, k', w1, f1, wf1, r1, p1⟩ => ?_⟩
    cases (show k = k' from r1)
    cases k with
    | true => exact iteT (p1 m1 F1 H1 _ (Fm.refl _ _ _) wf1 rfl)
    | false => exact iteF ⟨m1, F1, s, w1, wf1, sl.fm wf f1, p1⟩

/-! ### calls of built-ins -/
variable {x : Str} {p1 : Pos}
theorem one_pre {f : D → Option D} {σ : L2.St} {H : Hp} {Q : VK} (h : rd b (Rep b.z) (fun s => bnd (evE cf ca s) fun x => lift (f x)) σ H Q) : tCB (rC1 b f) (tCons (rR b (evE cf ca)) tNil) σ H Q := by
  obtain ⟨m, F, s, w, wf, sl, p⟩ := h
  exact ⟨m, F, s, w, wf, sl, (p.bind).imp fun v H1 ⟨m1, F1, dx, w1, f1, wf1, r1, p1⟩ => ⟨m1, F1, w1, v, dx, rfl, wf1, r1, p1⟩⟩
theorem se_bi {bi : Bi} {id : String} (hc : CallR X (.builtin id) (rC1 b (biD bi))) (hg : Gl X x) (hm : X.mg x = none) (hv : bootBuiltins x = some (.builtin id)) (ha : PE X a (rR b (evE cf ca))) (hs : notStar a = true) (hn : x ≠ "__name__") (hdb : (x == ("__debug__" : Str)) = false) :
    PE X (.Call (.Name x p1) [a] [] pos) (rE b (evE cf (.bi bi ca))) :=
  (pe_callB hc hg hm hv (pa_cons ha pa_nil (star_cons hs)) hn hdb (star_cons hs) rfl).imp fun σ H Q h => one_pre (by simpa only [evE] using h)
theorem se_bt {bi : Bi} {id : String} (hc : CallR X (.type id) (rC1 b (biD bi))) (hg : Gl X x) (hm : X.mg x = none) (hv : bootBuiltins x = some (.type id)) (ha : PE X a (rR b (evE cf ca))) (hs : notStar a = true) (hn : x ≠ "__name__") (hdb : (x == ("__debug__" : Str)) = false) :
    PE X (.Call (.Name x p1) [a] [] pos) (rE b (evE cf (.bi bi ca))) :=
  (pe_callTy hc hg hm hv (pa_cons ha pa_nil (star_cons hs)) hn hdb (star_cons hs) rfl).imp fun σ H Q h => one_pre (by simpa only [evE] using h)
theorem se_isi {t : Ty} {y : Str} {p2 : Pos} (hg : Gl X "isinstance") (hm : X.mg "isinstance" = none) (ha : PE X a (rR b (evE cf ca))) (hs : notStar a = true) (hg2 : Gl X y) (hm2 : X.mg y = none) (hy : bootBuiltins y = some (.type (tyN t))) (hn : y ≠ "__name__") (hdb : (y == ("__debug__" : Str)) = false) :
    PE X (.Call (.Name "isinstance" p1) [a, .Name y p2] [] pos) (rE b (evE cf (.isi t ca))) :=
  (pe_callB (cd_isi (t := t)) hg hm (by decide +kernel) (pa_cons ha (pa_cons (pe_bltn (v := .ty (tyN t)) hg2 hm2 hy rfl hn hdb) pa_nil) (star_cons hs)) (by decide) (by decide) (star_cons hs) rfl).imp fun σ H Q ⟨m, F, s, w, wf, sl, p⟩ => by
    have p : Post b m F H (bnd (evE cf ca s) (fun x => bnd (lift (isiD t x)) fun c => ret (.bool c)) w) (Rep b.z) Q := by simpa only [evE] using p
    exact ⟨m, F, s, w, wf, sl, (p.bind).imp fun v H1 ⟨m1, F1, dx, w1, f1, wf1, r1, p1⟩ => ⟨m1, F1, w1, v, dx, rfl, wf1, r1, p1⟩⟩
theorem se_min2 (hcm : X.calm = true) (hg : Gl X "min") (hm : X.mg "min" = none) (ha : PE X a (rR b (evE cf ca))) (hb : PE X c (rR b (evE cf cb))) (hs : notStar a = true) (hs2 : notStar c = true) : PE X (.Call (.Name "min" p1) [a, c] [] pos) (rE b (evE cf (.min2 ca cb))) :=
  (pe_callB (call_min2 hcm) hg hm (by decide +kernel) (pa_cons ha (pa_cons hb pa_nil (star_cons hs2)) (star_cons hs)) (by decide) (by decide) (star_cons hs) (by rw [star_cons hs2]; rfl)).imp fun σ H Q ⟨m, F, s, w, wf, sl, p⟩ => by
    have p : Post b m F H (bnd (evE cf ca s) (fun x => bnd (evE cf cb s) fun y => bnd (lift (intD x)) fun i => bnd (lift (intD y)) fun j => ret (.int (if j < i then j else i))) w) (Rep b.z) Q := by simpa only [evE] using p
    refine ⟨m, F, s, w, wf, sl, (p.bind).imp fun x H1 ⟨m1, F1, dx, w1, f1, wf1, r1, p1⟩ => ?_⟩
    refine ⟨m1, F1, s, w1, wf1, sl.fm wf f1, (p1.bind).imp fun y H2 ⟨m2, F2, dy, w2, f2, wf2, r2, p2⟩ => ?_⟩
    obtain ⟨i, ei, p3⟩ := p2.lift
    obtain ⟨j, ej, p4⟩ := p3.lift
    have e1 := intD_some ei
    have e2 := intD_some ej
    subst e1
    subst e2
    exact ⟨i, j, by rw [(wf1.rr r1 f2).int, r2.int], Post.here (d := .int _) p4 wf2 (.int _)⟩
theorem se_max2 (hcm : X.calm = true) (hg : Gl X "max") (hm : X.mg "max" = none) (ha : PE X a (rR b (evE cf ca))) (hb : PE X c (rR b (evE cf cb))) (hs : notStar a = true) (hs2 : notStar c = true) : PE X (.Call (.Name "max" p1) [a, c] [] pos) (rE b (evE cf (.max2 ca cb))) :=
  (pe_callB (call_max2 hcm) hg hm (by decide +kernel) (pa_cons ha (pa_cons hb pa_nil (star_cons hs2)) (star_cons hs)) (by decide) (by decide) (star_cons hs) (by rw [star_cons hs2]; rfl)).imp fun σ H Q ⟨m, F, s, w, wf, sl, p⟩ => by
    have p : Post b m F H (bnd (evE cf ca s) (fun x => bnd (evE cf cb s) fun y => bnd (lift (intD x)) fun i => bnd (lift (intD y)) fun j => ret (.int (if j > i then j else i))) w) (Rep b.z) Q := by simpa only [evE] using p
    refine ⟨m, F, s, w, wf, sl, (p.bind).imp fun x H1 ⟨m1, F1, dx, w1, f1, wf1, r1, p1⟩ => ?_⟩
    refine ⟨m1, F1, s, w1, wf1, sl.fm wf f1, (p1.bind).imp fun y H2 ⟨m2, F2, dy, w2, f2, wf2, r2, p2⟩ => ?_⟩
    obtain ⟨i, ei, p3⟩ := p2.lift
    obtain ⟨j, ej, p4⟩ := p3.lift
    have e1 := intD_some ei
    have e2 := intD_some ej
    subst e1
    subst e2
    exact ⟨i, j, by rw [(wf1.rr r1 f2).int, r2.int], Post.here (d := .int _) p4 wf2 (.int _)⟩

/-! ### subscripts -/
def notSl : Expr → Bool
  | .Slice .. => false
  | _ => true
theorem plain_ix (h : notSl c = true) : PlainIx c := fun o i => by
  cases c <;> first | rfl | (exact absurd h (by simp [notSl]))
theorem se_ix (hu : X.A.units + 10 < cLine) (hw : b.z.wd = X.w) (ha : PE X a (rR b (evE cf ca))) (hb : PE X c (rR b (evE cf cb))) (hs : notSl c = true) : PE X (.Subscript a c pos) (rE b (evE cf (.ix ca cb))) :=
  (pe_ix (id_ix hu hw) ha hb (plain_ix hs)).imp fun σ H Q h => op_pre (by simpa only [evE] using h)
abbrev rO (b : Bx) (f : Sl → M (Option Int)) : TO := rd b EqL f
theorem so_no : PO X none (rO b (evEo cf .no)) := by
  refine ⟨fun pins s σ H Q I h => ?_⟩
  obtain ⟨m, F, s', w, wf, sl, p⟩ := h
  exact po_none.run pins s σ H Q I (p m F H none (Fm.refl _ _ _) wf rfl)
theorem so_so (ha : PE X a (rR b (evE cf ca))) : PO X (some a) (rO b (evEo cf (.so ca))) := by
  refine ⟨fun pins s σ H Q I h => ?_⟩
  obtain ⟨m, F, s', w, wf, sl, p⟩ := h
  have p : Post b m F H (bnd (evE cf ca s') (fun x => bnd (lift (intD x)) fun i => ret (some i)) w) EqL Q := by simpa only [evEo] using p
  refine (po_some ha).run pins s σ H Q I ⟨m, F, s', w, wf, sl, (p.bind).imp fun x H1 ⟨m1, F1, dx, w1, f1, wf1, r1, p1⟩ => ?_⟩
  obtain ⟨i, ei, p2⟩ := p1.lift
  have e1 := intD_some ei
  subst e1
  exact ⟨i, r1.int, p2 m1 F1 H1 _ (Fm.refl _ _ _) wf1 rfl⟩
theorem se_sl {lo hi : Option Expr} {cl ch : Eo} {p2 : Pos} (ha : PE X a (rR b (evE cf ca))) (hl : PO X lo (rO b (evEo cf cl))) (hh : PO X hi (rO b (evEo cf ch))) : PE X (.Subscript a (.Slice lo hi none p2) pos) (rE b (evE cf (.sl ca cl ch))) :=
  (pe_slice sd_seq ha hl hh).imp fun σ H Q ⟨m, F, s, w, wf, sl, p⟩ => by
    have p : Post b m F H (bnd (evE cf ca s) (fun x => bnd (evEo cf cl s) fun l => bnd (evEo cf ch s) fun h => lift (slD x l h)) w) (Rep b.z) Q := by simpa only [evE] using p
    refine ⟨m, F, s, w, wf, sl, (p.bind).imp fun x H1 ⟨m1, F1, dx, w1, f1, wf1, r1, p1⟩ => ?_⟩
    refine ⟨m1, F1, s, w1, wf1, sl.fm wf f1, (p1.bind).imp fun l H2 ⟨m2, F2, dl, w2, f2, wf2, r2, p2⟩ => ?_⟩
    refine ⟨m2, F2, s, w2, wf2, sl.fm wf (f1.trans f2), (p2.bind).imp fun h H3 ⟨m3, F3, dh, w3, f3, wf3, r3, p3⟩ => ?_⟩
    cases (show l = dl from r2)
    cases (show h = dh from r3)
    exact ⟨m3, F3, w3, dx, wf3, wf1.rr r1 (f2.trans f3), p3⟩
theorem se_lst {es : List Expr} {cs : Es} (h : PA X es (rA b (evEs cf cs))) : PE X (.List es pos) (rE b (evE cf (.lst cs))) :=
  (pe_lst h).imp fun σ H Q ⟨m, F, s, w, wf, sl, p⟩ => by
    have p : Post b m F H (bnd (evEs cf cs s) (fun ds => if ds.length ≤ LIM then ret (.list ds) else bad) w) (Rep b.z) Q := by simpa only [evE] using p
    refine ⟨m, F, s, w, wf, sl, (p.bind).imp fun vs H1 ⟨m1, F1, ds, w1, f1, wf1, r1, p1⟩ => ?_⟩
    by_cases hl : ds.length ≤ LIM
    · rw [if_pos hl] at p1
      exact ⟨by rw [r1.length, ← lim_eq]; exact hl, Post.lst (w := w1) p1 wf1 r1⟩
    · rw [if_neg hl] at p1
      exact p1.elim
/-- a new object is locked at once -/
def tLkd (t : TE) : TE := fun σ H Q => t σ H fun v H1 => ∃ a u, v = .ref a ∧ H1 a = some u ∧ Mut (some u) ∧ ∀ od, Q v (upd H1 a (.frz od u))
theorem pe_lkd {e : Expr} {t : TE} (h : PE X e t) : PE X e (tLkd t) := ⟨fun pins s σ H Q I hw => thn (h.run pins s σ H _ I hw) fun u s1 ⟨x, H1, I1, r, a, o, ex, ha, mu, q⟩ => by
  obtain ⟨od, I2⟩ := I1.lock ha mu
  exact ⟨x, _, I2, r, q od⟩⟩
theorem repD_mut {z : Zt} {m : Mu} {F : Fz} {H : Hp} {a : Addr} {o : HO} {ds : List (D × D)} (r : RepD z m F H a o ds) : Mut (some o) := by cases r <;> exact True.intro
/-- a new dict, frozen -/
theorem Post.dctN {m : Mu} {F : Fz} {H : Hp} {w : W} {ds : List (D × D)} {Q : VK} {q : Addr} {o : HO} {od : Obj} (p : Post b m F H (.ok (.dict ds) w) (Rep b.z) Q) (wf : Wf b.z m F w H) (hq : H q = none) (r : RepD b.z m F H q o ds) : Q (.ref q) (upd (upd H q o) q (.frz od o)) := by
  rw [upd_upd]
  exact p m (frzA F q) _ _ (Fm.laidF hq) (wf.laidF hq) (.dK (.inr rfl) upd_same (wf.repD (Fm.laidF hq) r))
theorem se_dnew : PE X (.Dict [] [] pos) (rE b (evE cf .dnew)) :=
  (pe_lkd pe_dnewK).imp fun σ H Q ⟨m, F, s, w, wf, sl, p⟩ => by
    have p : Post b m F H (R.ok (.dict []) w) (Rep b.z) Q := by simp only [evE] at p; exact p
    exact fun q hq => ⟨q, .dK [], rfl, upd_same, True.intro, fun od => p.dctN wf hq (.k .nil)⟩
end
end Ev

set_option Elab.async false
set_option linter.all false
set_option maxRecDepth 100000
set_option autoImplicit false
/-! EvS6: targets, what is walked, comprehensions. -/
namespace Ev
open PySem PySem.Spec PyProof.Rows L2

/-! ### slots stored -/
theorem isMut_set {s : Sl} {i j : Nat} {d : D} (h : isMut (s.set i (some (.i d))) j) : j ≠ i ∧ isMut s j := by
  have key : ∀ sv : SV, (∀ d', sv ≠ .i d') → (s.set i (some (.i d)))[j]? = some (some sv) → j ≠ i ∧ s[j]? = some (some sv) := fun sv hsv e => by
    by_cases hj : j = i
    · subst hj
      by_cases hl : j < s.length
      · rw [List.getElem?_set_self hl] at e
        exact absurd (Option.some.inj (Option.some.inj e)).symm (hsv d)
      · rw [List.getElem?_eq_none (by simpa using hl)] at e
        cases e
    · rw [List.getElem?_set_ne (Ne.symm hj)] at e
      exact ⟨hj, e⟩
  rcases h with ⟨xs, e⟩ | ⟨kvs, e⟩
  · obtain ⟨h1, h2⟩ := key (.l xs) (fun _ q => nomatch q) e
    exact ⟨h1, .inl ⟨xs, h2⟩⟩
  · obtain ⟨h1, h2⟩ := key (.m kvs) (fun _ q => nomatch q) e
    exact ⟨h1, .inr ⟨kvs, h2⟩⟩
section
variable {z : Zt} {m : Mu} {F : Fz} {H0 H : Hp} {s : Sl} {σ : L2.St}
theorem SlR.setI (x : SlR z m F H0 s σ H) {v : V} {d : D} {i : Nat} (r : Rep z m F H v d) (hi : i < s.length) : SlR z m F H0 (s.set i (some (.i d))) (σ.set i (some v)) H where
  len := by rw [List.length_set, List.length_set]; exact x.len
  imm := fun j d' e => by
    by_cases hj : j = i
    · subst hj
      rw [List.getElem?_set_self hi] at e
      cases e
      exact ⟨v, by rw [List.getElem?_set_self (by rw [← x.len]; exact hi)], r⟩
    · rw [List.getElem?_set_ne (Ne.symm hj)] at e
      obtain ⟨v', e1, r1⟩ := x.imm j d' e
      exact ⟨v', by rw [List.getElem?_set_ne (Ne.symm hj)]; exact e1, r1⟩
  lst := fun j xs e => by
    obtain ⟨hj, _⟩ := isMut_set (.inl ⟨xs, e⟩)
    rw [List.getElem?_set_ne (Ne.symm hj)] at e
    obtain ⟨a, vs, e1, e2, r1⟩ := x.lst j xs e
    exact ⟨a, vs, by rw [List.getElem?_set_ne (Ne.symm hj)]; exact e1, e2, r1⟩
  dct := fun j xs e => by
    obtain ⟨hj, _⟩ := isMut_set (.inr ⟨xs, e⟩)
    rw [List.getElem?_set_ne (Ne.symm hj)] at e
    obtain ⟨a, vs, e1, e2, r1⟩ := x.dct j xs e
    exact ⟨a, vs, by rw [List.getElem?_set_ne (Ne.symm hj)]; exact e1, e2, r1⟩
  free := fun j a hm ha => by
    obtain ⟨hj, h2⟩ := isMut_set hm
    rw [List.getElem?_set_ne (Ne.symm hj)] at ha
    exact x.free j a h2 ha
  inj := fun j k a h1 h2 e1 e2 => by
    obtain ⟨hj, h1'⟩ := isMut_set h1
    obtain ⟨hk, h2'⟩ := isMut_set h2
    rw [List.getElem?_set_ne (Ne.symm hj)] at e1
    rw [List.getElem?_set_ne (Ne.symm hk)] at e2
    exact x.inj j k a h1' h2' e1 e2
/-- forgetting slots -/
theorem SlR.unset (x : SlR z m F H0 s σ H) (i : Nat) : SlR z m F H0 (s.set i none) (σ.set i none) H := by
  have key : ∀ (j : Nat) (sv : SV), (s.set i none)[j]? = some (some sv) → j ≠ i ∧ s[j]? = some (some sv) := fun j sv e => by
    by_cases hj : j = i
    · subst hj
      by_cases hl : j < s.length
      · rw [List.getElem?_set_self hl] at e
        cases e
      · rw [List.getElem?_eq_none (by simpa using hl)] at e
        cases e
    · rw [List.getElem?_set_ne (Ne.symm hj)] at e
      exact ⟨hj, e⟩
  have mt : ∀ j, isMut (s.set i none) j → j ≠ i ∧ isMut s j := fun j h => by
    rcases h with ⟨xs, e⟩ | ⟨kvs, e⟩
    · exact ⟨(key j _ e).1, .inl ⟨xs, (key j _ e).2⟩⟩
    · exact ⟨(key j _ e).1, .inr ⟨kvs, (key j _ e).2⟩⟩
  refine ⟨by rw [List.length_set, List.length_set]; exact x.len, fun j d e => ?_, fun j d e => ?_, fun j d e => ?_, fun j a hm ha => ?_, fun j k a h1 h2 e1 e2 => ?_⟩
  · obtain ⟨hj, e'⟩ := key j _ e
    obtain ⟨v, e1, r⟩ := x.imm j d e'
    exact ⟨v, by rw [List.getElem?_set_ne (Ne.symm hj)]; exact e1, r⟩
  · obtain ⟨hj, e'⟩ := key j _ e
    obtain ⟨a, vs, e1, r⟩ := x.lst j d e'
    exact ⟨a, vs, by rw [List.getElem?_set_ne (Ne.symm hj)]; exact e1, r⟩
  · obtain ⟨hj, e'⟩ := key j _ e
    obtain ⟨a, vs, e1, r⟩ := x.dct j d e'
    exact ⟨a, vs, by rw [List.getElem?_set_ne (Ne.symm hj)]; exact e1, r⟩
  · obtain ⟨hj, h2⟩ := mt j hm
    rw [List.getElem?_set_ne (Ne.symm hj)] at ha
    exact x.free j a h2 ha
  · obtain ⟨hj, h1'⟩ := mt j h1
    obtain ⟨hk, h2'⟩ := mt k h2
    rw [List.getElem?_set_ne (Ne.symm hj)] at e1
    rw [List.getElem?_set_ne (Ne.symm hk)] at e2
    exact x.inj j k a h1' h2' e1 e2
theorem SlR.wipe (x : SlR z m F H0 s σ H) : ∀ vs : List Nat, SlR z m F H0 (wipeA s vs) (L2.wipe σ vs) H
  | [] => x
  | v :: vs => (SlR.wipe x vs).unset v
end

/-! ### targets -/
mutual
def slotsT : Tg → List Nat
  | .name i => [i]
  | .tup ts => slotsTs ts
def slotsTs : Tgs → List Nat
  | .nil => []
  | .cons t ts => slotsT t ++ slotsTs ts
end
def rG (b : Bx) (tg : Tg) : TG := fun v σ H Q => ∃ m F s w d s', Wf b.z m F w H ∧ SlR b.z m F b.H0 s σ H ∧ Rep b.z m F H v d ∧ bindT tg d s = some s' ∧
  ∀ σ', SlR b.z m F b.H0 s' σ' H → σ'.length = σ.length → (∀ j : Nat, j ∉ slotsT tg → σ'[j]? = σ[j]?) → Q σ' H
def rGs (b : Bx) (ts : Tgs) : TGs := fun vs σ H Q => ∃ m F s w ds s', Wf b.z m F w H ∧ SlR b.z m F b.H0 s σ H ∧ RepAll b.z m F H vs ds ∧ bindTs ts ds s = some s' ∧
  ∀ σ', SlR b.z m F b.H0 s' σ' H → σ'.length = σ.length → (∀ j : Nat, j ∉ slotsTs ts → σ'[j]? = σ[j]?) → Q σ' H
section
variable {X : Cx} {b : Bx} {pos : Pos}
theorem sg_name {i : Nat} {x : Str} (hN : X.N.Nodup) (hi : X.N[i]? = some x) (hx : Loc X.env.scope x) (hf : X.fn x = true ∨ X.env.scope.names.lookup x = some .local) : PG X (.Name x pos) (rG b (.name i)) :=
  (pg_name hN hi hx hf).imp fun v σ H Q ⟨m, F, s, w, d, s', wf, sl, r, e, q⟩ => by
    unfold bindT at e
    split at e
    · rename_i hi
      cases e
      refine q _ (sl.setI r hi) (List.length_set ..) fun j hj => ?_
      have : j ≠ i := fun z => hj (by simp [slotsT, z])
      rw [List.getElem?_set_ne (Ne.symm this)]
    · cases e
theorem asg_cons {e : Expr} {es : List Expr} {env : Env} (h : notStar e = true) : assignEach (e :: es) env = (false, assign e env) :: assignEach es env := by
  cases e <;> first | rfl | (exact absurd h (by simp [notStar]))
theorem asg_len {env : Env} : ∀ {es : List Expr}, es.all notStar = true → (assignEach es env).length = es.length ∧ (assignEach es env).findIdx? (·.1) = none
  | [], _ => ⟨rfl, rfl⟩
  | e :: es, h => by
    rw [List.all_cons, Bool.and_eq_true] at h
    obtain ⟨h1, h2⟩ := asg_len (env := env) h.2
    rw [asg_cons h.1]
    refine ⟨by rw [List.length_cons, List.length_cons, h1], ?_⟩
    rw [List.findIdx?_cons, h2]
    rfl
theorem sgs_nil : PGs X [] (rGs b .nil) := ⟨fun pins s σ H vs us Q I r ⟨m, F, sl, w, ds, s', wf, sr, ra, e, q⟩ => by
  unfold bindTs at e
  cases ra with
  | nil =>
    cases e
    exact pgs_nil.run pins s σ H _ us Q I r ⟨rfl, q σ sr rfl fun _ _ => rfl⟩
  | cons h t => cases e⟩
theorem sgs_cons {e : Expr} {es : List Expr} {t : Tg} {ts : Tgs} (h1 : PG X e (rG b t)) (h2 : PGs X es (rGs b ts)) (hs : notStar e = true) : PGs X (e :: es) (rGs b (.cons t ts)) :=
  ⟨fun pins s σ H vs us Q I r ⟨m, F, sl, w, ds, s', wf, sr, ra, e, q⟩ => by
    cases ra with
    | nil => unfold bindTs at e; cases e
    | cons h tl =>
      unfold bindTs at e
      obtain ⟨s1, e1, e2⟩ := Option.bind_eq_some_iff.mp e
      refine (pgs_cons h1 h2 (by rw [asg_cons hs]; rfl)).run pins s σ H _ us Q I r ⟨_, _, rfl, m, F, sl, w, _, s1, wf, sr, h, e1, fun σ1 sr1 l1 g1 => ?_⟩
      refine ⟨m, F, s1, w, _, s', wf, sr1, tl, e2, fun σ2 sr2 l2 g2 => q σ2 sr2 (l2.trans l1) fun j hj => ?_⟩
      have hj : j ∉ slotsT t ∧ j ∉ slotsTs ts := by simpa [slotsTs] using hj
      exact (g2 j hj.2).trans (g1 j hj.1)⟩
theorem sg_tup {es : List Expr} {k : Nat} {ts : Tgs} (hc : X.calm = true) (h : PGs X es (rGs b ts)) (hs : es.all notStar = true) (hn : ∀ ds s s', bindTs ts ds s = some s' → ds.length = es.length) : PG X (.Tuple es k pos) (rG b (.tup ts)) :=
  (pg_tup (n := es.length) hc h (asg_len hs).1 (asg_len hs).2).imp fun v σ H Q ⟨m, F, s, w, d, s', wf, sl, r, e, q⟩ => by
    unfold bindT at e
    cases d with
    | tuple ds =>
      obtain ⟨a, vs, rfl, h1, h2, _⟩ := (RepR.tuple (.inl r))
      exact ⟨a, vs, rfl, .inl (.inl h1), by rw [h2.length]; exact hn _ _ _ e, m, F, s, w, ds, s', wf, sl, h2, e, q⟩
    | _ => cases e
end
def lenTs : Tgs → Nat
  | .nil => 0
  | .cons _ ts => lenTs ts + 1
theorem bindTs_len : ∀ (ts : Tgs) (ds : List D) (s s' : Sl), bindTs ts ds s = some s' → ds.length = lenTs ts
  | .nil, [], _, _, _ => rfl
  | .nil, _ :: _, _, _, e => by unfold bindTs at e; cases e
  | .cons _ _, [], _, _, e => by unfold bindTs at e; cases e
  | .cons t ts, d :: ds, s, s', e => by
    unfold bindTs at e
    obtain ⟨s1, _, e2⟩ := Option.bind_eq_some_iff.mp e
    rw [List.length_cons, bindTs_len ts ds s1 s' e2]
    rfl
/-- the slots that no target touches are forgotten alike -/
theorem wipe_agree : ∀ (vs : List Nat) {σ σ' : L2.St}, σ'.length = σ.length → (∀ j : Nat, j ∉ vs → σ'[j]? = σ[j]?) → L2.wipe σ' vs = L2.wipe σ vs := by
  have get : ∀ (vs : List Nat) (σ : L2.St) (j : Nat), (L2.wipe σ vs)[j]? = if j ∈ vs ∧ j < σ.length then some none else σ[j]? := fun vs => by
    induction vs with
    | nil =>
      intro σ j
      rw [if_neg (by simp)]
      rfl
    | cons v vs ih =>
      intro σ j
      unfold L2.wipe
      by_cases hj : v = j
      · subst hj
        by_cases hl : v < σ.length
        · rw [List.getElem?_set_self (by rw [wipe_length]; exact hl), if_pos ⟨List.mem_cons_self, hl⟩]
        · rw [if_neg (fun q => hl q.2), List.getElem?_eq_none (by rw [List.length_set, wipe_length]; omega), List.getElem?_eq_none (by omega)]
      · rw [List.getElem?_set_ne hj, ih]
        have : (j ∈ v :: vs) ↔ j ∈ vs := by simp [Ne.symm hj]
        simp only [this]
  intro vs σ σ' hl hg
  refine List.ext_getElem? fun j => ?_
  rw [get, get, hl]
  by_cases hj : j ∈ vs
  · by_cases h2 : j < σ.length
    · rw [if_pos ⟨hj, h2⟩, if_pos ⟨hj, h2⟩]
    · rw [if_neg (fun q => h2 q.2), if_neg (fun q => h2 q.2), List.getElem?_eq_none (by omega), List.getElem?_eq_none (by omega)]
  · rw [if_neg (fun q => hj q.1), if_neg (fun q => hj q.1), hg j hj]

/-! ### what is walked -/
def Goes (z : Zt) (m : Mu) (F : Fz) (H : Hp) (J : It) (ds : List D) : Prop := ds.length ≤ sizeLine ∧ ∀ m' F' H' w', Fk m F H m' F' H' → Wf z m' F' w' H' → J.stop ds.length H' ∧
  ∀ (i : Nat) (d : D), ds[i]? = some d → J.go i H' ∧ ∀ x H'', J.yld i H' x H'' → ∃ F'', Fm m' F' H' m' F'' H'' ∧ Wf z m' F'' w' H'' ∧ Rep z m' F'' H'' x d
abbrev rI (b : Bx) (f : Sl → M (List D)) : TI := rd b (Goes b.z) f
section
variable {X : Cx} {b : Bx} {cf : CF} {tg a c e : Expr} {ca cb : E} {pos p1 : Pos}
theorem goes_list {K : PySem.W.Frag} {z : Zt} {m : Mu} {F : Fz} {H : Hp} {q : Addr} {vs : List V} {ds : List D} (hz : vs.length ≤ sizeLine) (hF : F q) (hq : H q = some (.lst vs)) (hr : RepAll z m F H vs ds) :
    Goes z m F H (Itl K q) ds := ⟨by rw [← hr.length]; exact hz, fun m' F' H' w' f wf => by
  have h' := f.kp q _ hF hq
  refine ⟨⟨vs, .inl (.inl h'), by rw [hr.length]; exact Nat.le_refl _⟩, fun i d e => ?_⟩
  obtain ⟨v, e1, r⟩ := hr.get e
  refine ⟨⟨vs, v, .inl (.inl h'), e1⟩, fun x H'' hy => ?_⟩
  obtain ⟨rfl, hx⟩ := hy
  have := hx vs (.inl (.inl h'))
  rw [e1] at this
  cases this
  exact ⟨F', Fm.refl _ _ _, wf, f.rep r⟩⟩
theorem goes_tup {K : PySem.W.Frag} {z : Zt} {m : Mu} {F : Fz} {H : Hp} {q : Addr} {vs : List V} {ds : List D} (hz : vs.length ≤ sizeLine) (hF : F q) (hq : H q = some (.tup vs)) (hr : RepAll z m F H vs ds) :
    Goes z m F H (Itt K q) ds := ⟨by rw [← hr.length]; exact hz, fun m' F' H' w' f wf => by
  have h' := f.kp q _ hF hq
  refine ⟨⟨vs, .inl (.inl h'), by rw [hr.length]; exact Nat.le_refl _⟩, fun i d e => ?_⟩
  obtain ⟨v, e1, r⟩ := hr.get e
  refine ⟨⟨vs, v, .inl (.inl h'), e1⟩, fun x H'' hy => ?_⟩
  obtain ⟨rfl, hx⟩ := hy
  have := hx vs (.inl (.inl h'))
  rw [e1] at this
  cases this
  exact ⟨F', Fm.refl _ _ _, wf, f.rep r⟩⟩
theorem goes_range {z : Zt} {m : Mu} {F : Fz} {H : Hp} {lo : Int} {n : Nat} (hn : n ≤ sizeLine) : Goes z m F H (Itr lo n) ((List.range n).map fun (k : Nat) => .int (lo + k)) := ⟨by simpa using hn, fun m' F' H' w' f wf => by
  refine ⟨show n ≤ _ by simp, fun i d e => ?_⟩
  have hi : i < n := by
    have := (List.getElem?_eq_some_iff.mp e).1
    simpa using this
  refine ⟨hi, fun x H'' hy => ?_⟩
  obtain ⟨rfl, rfl⟩ := hy
  have ed : d = .int (lo + i) := by
    rw [List.getElem?_map, List.getElem?_range hi] at e
    exact (Option.some.inj e).symm
  subst ed
  exact ⟨F', Fm.refl _ _ _, wf, .int _⟩⟩
theorem goes_keysN {z : Zt} {m : Mu} {F : Fz} {H : Hp} {q : Addr} {od : Obj} {ks : List (NestedKey × Addr × V)} {ds : List (D × D)} (hz : ks.length ≤ sizeLine) (hF : F q) (hq : H q = some (.frz od (DN z.wd q ks))) (hr : RepKN z m F H ks ds) :
    Goes z m F H (Itn q od z.wd ks) (ds.map (·.1)) := ⟨by rw [List.length_map, ← hr.len]; exact hz, fun m' F' H' w' f wf => by
  have h' := f.kp q _ hF hq
  refine ⟨⟨h', by rw [List.length_map, hr.len]; exact Nat.le_refl _⟩, fun i d e => ?_⟩
  rw [List.getElem?_map] at e
  obtain ⟨p, e1, rfl⟩ := Option.map_eq_some_iff.mp e
  obtain ⟨a, v, e2, r⟩ := hr.keyAt e1
  refine ⟨⟨h', (List.getElem?_eq_some_iff.mp e2).1⟩, fun x H'' hy => ?_⟩
  obtain ⟨rfl, k, a', v', e3, rfl⟩ := hy
  rw [e2] at e3
  cases e3
  exact ⟨F', Fm.refl _ _ _, wf, f.rep r⟩⟩
theorem goes_keys {z : Zt} {m : Mu} {F : Fz} {H : Hp} {q : Addr} {od : Obj} {ks : List (Key × V)} {ds : List (D × D)} (hz : ks.length ≤ sizeLine) (hF : F q) (hq : H q = some (.frz od (.dK ks))) (hr : RepKV z m F H ks ds) :
    Goes z m F H (Itk q od ks) (ds.map (·.1)) := ⟨by rw [List.length_map, ← hr.lenV]; exact hz, fun m' F' H' w' f wf => by
  have h' := f.kp q _ hF hq
  refine ⟨⟨h', by rw [List.length_map, hr.lenV]; exact Nat.le_refl _⟩, fun i d e => ?_⟩
  rw [List.getElem?_map] at e
  obtain ⟨p, e1, rfl⟩ := Option.map_eq_some_iff.mp e
  obtain ⟨k, v, e2, r⟩ := hr.keyAt e1
  refine ⟨⟨h', (List.getElem?_eq_some_iff.mp e2).1⟩, fun x H'' hy => ?_⟩
  obtain ⟨rfl, k', v', e3, rfl⟩ := hy
  rw [e2] at e3
  cases e3
  exact ⟨F', Fm.refl _ _ _, wf, f.rep r⟩⟩
theorem si_seq (ha : PE X a (rE b (evE cf ca))) : PI X tg a (rI b (evI cf (.seq ca))) := by
  refine ⟨fun pins s σ H R I h => ?_⟩
  obtain ⟨m, F, sl, w, wf, sr, p⟩ := h
  have p : Post b m F H (bnd (evE cf ca sl) (fun x => lift (seqD x)) w) (Goes b.z) R := by simpa only [evI] using p
  refine thn (ha.run pins s σ H _ I ⟨m, F, sl, w, wf, sr, p.bind⟩) fun v s1 ⟨x, H1, I1, r1, m1, F1, d, w1, f1, wf1, rx, p1⟩ => ?_
  obtain ⟨ds, ed, p2⟩ := p1.lift1
  cases d with
  | list xs =>
    cases ed
    cases rx with
    | lst hF h1 h2 =>
      rename_i q vs
      cases r1
      obtain ⟨its, rv, pl, hz⟩ := I1.list (X := X) (.inl (.inl h1))
      refine wpAny_pyIter_list pl.isList ?_
      refine ⟨s1.heap.objs.size, [s1.heap.objs.size], _, _, H1, rfl, I1.kept (t' := s1.toks) fun b o e => Heap.get?_push_of_some _ e, turn_list q _, ⟨_, Heap.get?_push_size _ rfl, rfl, rfl⟩, fun b hb => ?_, ?_⟩
      · have e : b = s1.heap.objs.size := by simpa using hb
        subst e
        exact I1.fpOk (Nat.le_refl _) (I1.hok.fresh (Nat.le_refl _))
      · exact p2 m1 F1 H1 _ (Fm.refl _ _ _) wf1 (goes_list hz hF h1 h2)
  | tuple xs =>
    cases ed
    cases rx with
    | tup hF h1 h2 =>
      rename_i q vs
      cases r1
      obtain ⟨its, rv, pl, hz⟩ := I1.tuple (X := X) (.inl (.inl h1))
      refine wpAny_pyIter_tuple (show s1.heap.IsTuple q its.toArray from pl) ?_
      refine ⟨s1.heap.objs.size, [s1.heap.objs.size], _, _, H1, rfl, I1.kept (t' := s1.toks) fun b o e => Heap.get?_push_of_some _ e, turn_tuple q _, ⟨_, Heap.get?_push_size _ rfl, rfl, rfl⟩, fun b hb => ?_, ?_⟩
      · have e : b = s1.heap.objs.size := by simpa using hb
        subst e
        exact I1.fpOk (Nat.le_refl _) (I1.hok.fresh (Nat.le_refl _))
      · exact p2 m1 F1 H1 _ (Fm.refl _ _ _) wf1 (goes_tup hz hF h1 h2)
  | dict kvs =>
    have ed : (if kdOk kvs then some (kvs.map (·.1)) else none) = some ds := ed
    split at ed
    · rename_i hk
      cases ed
      generalize hdd : PyData.dict kvs = dd at rx
      cases rx with
      | @dK q od o ds' hF h1 h2 =>
        cases hdd
        cases r1
        cases h2 with
        | k h2 =>
          obtain ⟨hs, hgd, hx, es, ep, vs, hdt, hsz, kv, hm⟩ := I1.frzK h1
          obtain ⟨_, hz, _⟩ := (show ObjOk X.prog X.w H1 s1.heap q (.frz od (.dK _)) from I1.hok q _ h1)
          refine iter_keys hs hgd hx hdt (pi_one (tk := s1.toks) I1 _ (turn_keys _ hdt) ⟨_, Heap.get?_push_size _ rfl, rfl, ?_⟩ (p2 m1 F1 H1 _ (Fm.refl _ _ _) wf1 (goes_keys hz hF h1 h2)))
          rw [hsz] <;> rfl
        | n h2 hn =>
          obtain ⟨hs, hgd, hx, hz, es, ep, hdt, hsz, ent⟩ := Inv.frzN I1 h1
          refine iter_keys hs hgd hx hdt (pi_one (tk := s1.toks) I1 _ (turn_keysN _ hdt) ⟨_, Heap.get?_push_size _ rfl, rfl, ?_⟩ (p2 m1 F1 H1 _ (Fm.refl _ _ _) wf1 (goes_keysN hz hF h1 h2)))
          rw [hsz] <;> rfl
      | fn n => cases hdd; simp [kdOk, keyOk, tkOk, isTup] at hk
      | scr => cases hdd; simp [kdOk, keyOk, tkOk, isTup] at hk
      | ob h => cases hdd; simp [kdOk, keyOk, tkOk, isTup] at hk
      | _ => cases hdd
    · cases ed
  | _ => cases ed
end
end Ev

set_option Elab.async false
set_option linter.all false
set_option maxRecDepth 100000
set_option autoImplicit false
/-! EvEn: enumerate of a tuple. -/
namespace Ev
open PySem PySem.Spec PyProof.Rows L2
set_option maxHeartbeats 1000000 in
theorem meets_enumerate_newT (l : Addr) (items : Array Value) (n : Nat) (dct : Option Addr) (sl : Array (Option Value)) :
    Meets (Builtin.«enumerate.__new__» ⟨[.type "enumerate", .ref l], []⟩) (fun _ R s => s.heap.get? l = some { cls := .type "tuple", dict := dct, data := .seq items n, slots := sl } ∧
      R (.ok (.ret (.ref (s.heap.push { cls := .type "tuple_iterator", data := .fields #[.ref l, .int 0 0] }).objs.size)))
        { s with heap := (s.heap.push { cls := .type "tuple_iterator", data := .fields #[.ref l, .int 0 0] }).push { cls := .type "enumerate", data := .fields #[.none, .bool false, .ref s.heap.objs.size, rawInt 0, .none, .none] } }) :=
  .of_wp fun prog w A R s h => by
    obtain ⟨hp, g, d, tk, os⟩ := s; obtain ⟨hl, h⟩ := h
    have hsub := sub_enumerate
    have hL : Heap.IsTuple (Shared.heap ⟨hp, g, d, tk, os⟩) l items := ⟨_, hl, rfl, n, rfl⟩
    wp_walk using AutoSeq1.wpAny_loadPart' hl
    refine wpAny_stack_any fun st => wpAny_pure ?_
    split
    · rename_i c _ _ _ _ _
      cases (c == Value.type "enumerate")
      · wp_walk using AutoSeq1.wpAny_loadPart' hl, wpAny_pyIter_tuple hL
        exact ⟨_, rfl, h⟩
      · wp_walk using AutoSeq1.wpAny_loadPart' hl, wpAny_pyIter_tuple hL
        exact ⟨_, rfl, h⟩
    · wp_walk using AutoSeq1.wpAny_loadPart' hl, wpAny_pyIter_tuple hL
      exact ⟨_, rfl, h⟩
theorem call_enumerate_tuple {prog : Program} {w : World} {A : Around} {E : Value → Shared → Prop} {s : Shared} {l : Addr} {items : Array Value} {Q : Value → Shared → Prop} (hL : s.heap.IsTuple l items)
    (h : ∀ h', IsEnum h' (s.heap.objs.size + 1) s.heap.objs.size 0 .none → h'.IsTupleIter s.heap.objs.size l 0 → h'.objs.size = s.heap.objs.size + 2 →
      (∀ b o, s.heap.get? b = some o → h'.get? b = some o) → Q (.ref (s.heap.objs.size + 1)) { s with heap := h' }) :
    wpAny (model prog w) A (call (.type "enumerate") [.ref l]) Q E s := by
  obtain ⟨⟨c, dct, dt, sl⟩, hl, hc, n, hd⟩ := hL
  replace hc : c = .type "tuple" := hc
  replace hd : dt = .seq items n := hd
  subst hc hd
  refine callType_new F.called_enumerate (by decide) (F.typeCall_enumerate_1 _) (F.newCall_enumerate_1 _) (fun obj => F.args_object_init_2 obj _) F.entry_enumerate_new
    (meets_enumerate_newT l items n dct sl) ⟨hl, ?_⟩
  have hz : (s.heap.push { cls := .type "tuple_iterator", data := .fields #[.ref l, .int 0 0] }).objs.size = s.heap.objs.size + 1 := Heap.size_push ..
  show _ ∧ _
  rw [hz]
  have he : IsEnum ((s.heap.push { cls := .type "tuple_iterator", data := .fields #[.ref l, .int 0 0] }).push
      { cls := .type "enumerate", data := .fields #[.none, .bool false, .ref s.heap.objs.size, rawInt 0, .none, .none] }) (s.heap.objs.size + 1) s.heap.objs.size 0 .none := by
    have := Heap.get?_push_size (s.heap.push { cls := .type "tuple_iterator", data := .fields #[.ref l, .int 0 0] })
      (o := { cls := .type "enumerate", data := .fields #[.none, .bool false, .ref s.heap.objs.size, rawInt 0, .none, .none] }) rfl
    rw [hz] at this; exact this
  refine ⟨⟨_, he, rfl⟩, h _ he ⟨_, Heap.get?_push_of_some _ (Heap.get?_push_size _ rfl), rfl, rfl⟩ (by rw [Heap.size_push, hz]) fun b o x => Heap.get?_push_of_some _ (Heap.get?_push_of_some _ x)⟩
/-- the tuple at a, each item in a new pair -/
def IteT (K : PySem.W.Frag) (a : Addr) : It :=
  ⟨fun i H => ∃ (xs : List V) (x : V), SqT K H a xs ∧ xs[i]? = some x, fun i H v H' => ∃ T x, v = .ref T ∧ H T = none ∧ H' = upd H T (.tup [.int (i : Nat), x]) ∧ ∀ xs, SqT K H a xs → xs[i]? = some x, fun i H => ∃ xs : List V, SqT K H a xs ∧ xs.length = i⟩
theorem turn_enumT {P : Program} {w : World} {K : PySem.W.Frag} {elts : List Expr} {kk : Nat} {tpos : Pos} (a e it : Addr) (hae : a ≠ e) (hai : a ≠ it) :
    Turn P w K (.Tuple elts kk tpos) (IteT K a) [e, it] e (fun i h => (∃ old, IsEnum h e it ((i : Nat) : Int) old) ∧ h.IsTupleIter it a i ∧ e ≠ it) where
  mem := by simp
  obj := fun i h st b hb => by
    obtain ⟨⟨old, he⟩, ⟨o, ho, hc, hd⟩, _⟩ := st
    have e' : b = e ∨ b = it := by simpa using hb
    rcases e' with z | z
    · rw [z]; exact ⟨_, he, fun v q => nomatch q⟩
    · rw [z]; exact ⟨o, ho, fun v q => by rw [hd] at q; cases q⟩
  keep := fun i h h' st k => let ⟨⟨old, he⟩, hi, hne⟩ := st; ⟨⟨old, k e (by simp) _ he⟩, hi.at fun o q => k it (by simp) o q, hne⟩
  item := by
    intro X hP hw hK hc i pins s σ H E I hf st hg
    subst hP hw hK
    obtain ⟨⟨old, he⟩, hit, hne⟩ := st
    obtain ⟨xs, x, hq, hx⟩ := hg
    obtain ⟨its, rv, p, hz⟩ := I.tuple hq
    obtain ⟨u, hu, ru⟩ := rv.get hx
    have hel : e < s.heap.objs.size := Heap.lt_size he
    have hil : it < s.heap.objs.size := by obtain ⟨_, q, _⟩ := hit; exact Heap.lt_size q
    have hlt : i < its.toArray.size := by
      have := (List.getElem?_eq_some_iff.mp hu).1
      simpa using this
    have hef : e ∉ [it, a] := fun hm => by
      have : e = it ∨ e = a := by simpa using hm
      rcases this with q | q
      · exact hne q
      · exact hae q.symm
    refine wpAny_pyNext_enum_itemD (Draws.tuple (by show X.A.handled = none; exact I.ok.hd hc) it a hai its.toArray) he ⟨hit, p⟩ hlt hne hef fun x' h' tk hx' ho hst hT hsz hk => ?_
    have eu : x' = u := by
      have : its.toArray[i]? = some u := by simpa using hu
      rw [this] at hx'
      exact (Option.some.inj hx').symm
    subst eu
    refine ⟨_, rfl, wpAny_letOwnedTupleGo_enum (s := { s with heap := h', toks := tk + 1 }) ho fun h'' he' sb => ?_⟩
    have hT2 : h''.get? s.heap.objs.size = some { cls := .type "tuple", data := .seq #[.int i tk, x'] } := (sb.2 _ (Nat.ne_of_gt hel)).trans hT
    have new : ObjOk X.prog X.w (upd H s.heap.objs.size (.tup [.int (i : Nat), x])) h'' s.heap.objs.size (.tup [.int (i : Nat), x]) :=
      ⟨by show 2 ≤ sizeLine; decide, [.int i tk, x'], .cons ⟨_, rfl⟩ (.cons ru .nil), ⟨_, hT2, rfl, _, rfl⟩⟩
    have I1 : Inv X pins σ (upd H s.heap.objs.size (.tup [.int (i : Nat), x])) { s with heap := h'', toks := tk + 1 } :=
      I.turnedNew (ch := [e, it]) (fun b ob hb q => (sb.2 b (fun z => hb (by simp [z]))).trans (hk b ob (fun z => hb (by simp [z])) (fun z => hb (by simp [z])) q)) hf (Nat.le_refl _) new
    refine ⟨.ref s.heap.objs.size, _, I1, rfl, ⟨_, x, rfl, I.hok.fresh (Nat.le_refl _), rfl, fun ys hy => by rw [I.tuple_inj hy hq]; exact hx⟩, ⟨⟨x', ?_⟩, hst.1.at fun o q => (sb.2 it (Ne.symm hne)).trans q, hne⟩, fun b hb => ?_⟩
    · have e1 : ((i + 1 : Nat) : Int) = (i : Int) + 1 := by omega
      rw [e1]; exact he'
    · have hb' : b < s.heap.objs.size := by
        have e' : b = e ∨ b = it := by simpa using hb
        rcases e' with z | z
        · rw [z]; exact hel
        · rw [z]; exact hil
      rw [upd_ne (Nat.ne_of_lt hb')]
      exact (hf b hb).1
  done := by
    intro X hP hw hK hc i pins s σ H E I hf st hg
    subst hP hw hK
    obtain ⟨⟨old, he⟩, hit, hne⟩ := st
    obtain ⟨xs, hq, hx⟩ := hg
    obtain ⟨its, rv, p, hz⟩ := I.tuple hq
    obtain ⟨f0, f1, f2, f3, f4, f5⟩ := hf it (by simp)
    have hl := rv.length
    have hn : its.toArray.size = i := by rw [List.size_toArray]; omega
    refine wpAny_pyNext_enum_endD (Draws.tuple (by show X.A.handled = none; exact I.ok.hd hc) it a hai its.toArray) he (by rw [hn]; exact ⟨hit, p⟩) fun h' eb => ⟨rfl, I.turned (t' := s.toks) (fun b o hb q => eb b o hb q) f0 f1 f3 f4 f5⟩
  self := fun A i s Q E st h => let ⟨⟨_, he⟩, _⟩ := st; wpAny_pyIter_enum he h
/-- enumerate of a list or a tuple -/
def iEnumA (K : PySem.W.Frag) (ta : TA) : TI := fun σ H R => ta σ H fun vs H1 => ∃ a xs, vs = [.ref a] ∧ ((SqL K H1 a xs ∧ R (Ite K a) H1) ∨ (SqT K H1 a xs ∧ R (IteT K a) H1))
theorem pi_enumA {X : Cx} {e : Expr} {ta : TA} {p pos tpos : Pos} {elts : List Expr} {kk : Nat} (hg : Gl X "enumerate") (hm : X.mg "enumerate" = none) (ha : PA X [e] ta) (hs : starEach [e] X.env = [(false, eval e X.env)]) :
    PI X (.Tuple elts kk tpos) (.Call (.Name "enumerate" p) [e] [] pos) (iEnumA X.K ta) := by
  refine ⟨fun pins s σ H R I h => ?_⟩
  refine Call_ (ld_blt I hg hm boot_enumerate (PyProof.Rows.callWith_type1 (thn (ha.run pos pins s σ H _ I h) fun us s1 ⟨vs, H1, I1, r1, q1⟩ => ?_) hs rfl))
  obtain ⟨a, xs, ex, q⟩ := q1
  subst ex
  cases r1 with
  | cons r rr =>
    cases rr
    cases r
    rcases q with ⟨hq, q⟩ | ⟨hq, q⟩
    · obtain ⟨its, rv, p', hz⟩ := I1.list hq
      refine call_enumerate_list p'.isList fun h' he hit hsz hk => wpAny_pyIter_enum he ?_
      have I2 : Inv X pins σ H1 { s1 with heap := h' } := I1.kept (t' := s1.toks) hk
      refine ⟨s1.heap.objs.size + 1, [s1.heap.objs.size + 1, s1.heap.objs.size], _, _, H1, rfl, I2, turn_enum a (s1.heap.objs.size + 1) s1.heap.objs.size, ⟨⟨.none, he⟩, hit, Nat.succ_ne_self _⟩, fun b hb => ?_, q⟩
      have e' : b = s1.heap.objs.size + 1 ∨ b = s1.heap.objs.size := by simpa using hb
      have hle : s1.heap.objs.size ≤ b := by
        rcases e' with z | z
        · rw [z]; exact Nat.le_add_right _ _
        · rw [z]; exact Nat.le_refl _
      exact I1.fpOk hle (I1.hok.fresh hle)
    · obtain ⟨its, rv, p', hz⟩ := I1.tuple hq
      have hal : a < s1.heap.objs.size := by obtain ⟨o, ho, _⟩ := p'; exact Heap.lt_size ho
      refine call_enumerate_tuple (show s1.heap.IsTuple a its.toArray from p') fun h' he hit hsz hk => wpAny_pyIter_enum he ?_
      have I2 : Inv X pins σ H1 { s1 with heap := h' } := I1.kept (t' := s1.toks) hk
      refine ⟨s1.heap.objs.size + 1, [s1.heap.objs.size + 1, s1.heap.objs.size], _, _, H1, rfl, I2, turn_enumT a (s1.heap.objs.size + 1) s1.heap.objs.size (Nat.ne_of_lt (Nat.lt_succ_of_lt hal)) (Nat.ne_of_lt hal), ⟨⟨.none, he⟩, hit, Nat.succ_ne_self _⟩, fun b hb => ?_, q⟩
      have e' : b = s1.heap.objs.size + 1 ∨ b = s1.heap.objs.size := by simpa using hb
      have hle : s1.heap.objs.size ≤ b := by
        rcases e' with z | z
        · rw [z]; exact Nat.le_add_right _ _
        · rw [z]; exact Nat.le_refl _
      exact I1.fpOk hle (I1.hok.fresh hle)
end Ev

set_option Elab.async false
set_option linter.all false
set_option maxRecDepth 100000
set_option autoImplicit false
/-! EvS7: ranges, zip, enumerate; comprehensions. -/
namespace Ev
open PySem PySem.Spec PyProof.Rows L2
section
variable {X : Cx} {b : Bx} {cf : CF} {tg a c e : Expr} {ca cb : E} {pos p1 : Pos}
/-- a value's length is bounded -/
theorem _root_.L2.PE.sized {t : TE} (h : PE X e t) : PE X e (fun σ H Q => t σ H fun v H' => (∀ (a : Addr) (xs : List V), v = .ref a → (H' a = some (.lst xs) ∨ H' a = some (.tup xs)) → xs.length ≤ sizeLine) → Q v H') :=
  ⟨fun pins s σ H Q I q => thn (h.run pins s σ H _ I q) fun u s1 ⟨v, H1, I1, r1, q1⟩ => ⟨v, H1, I1, r1, q1 fun a xs _ hx => by
    rcases hx with hx | hx
    · exact (show ObjOk X.prog X.w H1 s1.heap a (.lst xs) from I1.hok a _ hx).1
    · exact (show ObjOk X.prog X.w H1 s1.heap a (.tup xs) from I1.hok a _ hx).1⟩⟩
theorem rangeD_some {lo hi : Int} {ds : List D} (h : rangeD lo hi = some ds) : (-(2 ^ 62) ≤ lo ∧ lo < 2 ^ 62 ∧ -(2 ^ 62) ≤ hi ∧ hi < 2 ^ 62) ∧ (hi - lo).toNat ≤ sizeLine ∧ ds = (List.range (hi - lo).toNat).map fun (k : Nat) => .int (lo + k) := by
  unfold rangeD at h
  split at h
  · rename_i q
    cases h
    exact ⟨⟨q.1, q.2.1, q.2.2.1, q.2.2.2.1⟩, by rw [← lim_eq]; exact q.2.2.2.2, rfl⟩
  · cases h
theorem si_range1 (hg : Gl X "range") (hm : X.mg "range" = none) (ha : PE X a (rR b (evE cf ca))) (hs : notStar a = true) : PI X tg (.Call (.Name "range" p1) [a] [] pos) (rI b (evI cf (.range1 ca))) :=
  (pi_range1 hg hm (pa_cons ha pa_nil (star_cons hs)) (star_cons hs)).imp fun σ H R ⟨m, F, s, w, wf, sl, p⟩ => by
    have p : Post b m F H (bnd (evE cf ca s) (fun x => bnd (lift (intD x)) fun i => lift (rangeD 0 i)) w) (Goes b.z) R := by simpa only [evI] using p
    refine ⟨m, F, s, w, wf, sl, (p.bind).imp fun x H1 ⟨m1, F1, dx, w1, f1, wf1, r1, p1⟩ => ?_⟩
    obtain ⟨i, ei, p2⟩ := p1.lift
    obtain ⟨ds, ed, p3⟩ := p2.lift1
    have e1 := intD_some ei
    subst e1
    obtain ⟨h1, h2, rfl⟩ := rangeD_some ed
    have e0 : i - 0 = i := Int.sub_zero i
    rw [e0] at p3 h2
    exact ⟨i, by rw [r1.int], h1.2.2.1, h1.2.2.2, p3 m1 F1 H1 _ (Fm.refl _ _ _) wf1 (goes_range h2)⟩
theorem si_range2 (hg : Gl X "range") (hm : X.mg "range" = none) (ha : PE X a (rR b (evE cf ca))) (hb : PE X c (rR b (evE cf cb))) (hs : notStar a = true) (hs2 : notStar c = true) : PI X tg (.Call (.Name "range" p1) [a, c] [] pos) (rI b (evI cf (.range2 ca cb))) :=
  (pi_range2 hg hm (pa_cons ha (pa_cons hb pa_nil (star_cons hs2)) (star_cons hs)) (by rw [star_cons hs, star_cons hs2]; rfl) (star_cons hs2)).imp fun σ H R ⟨m, F, s, w, wf, sl, p⟩ => by
    have p : Post b m F H (bnd (evE cf ca s) (fun x => bnd (evE cf cb s) fun y => bnd (lift (intD x)) fun i => bnd (lift (intD y)) fun j => lift (rangeD i j)) w) (Goes b.z) R := by simpa only [evI] using p
    refine ⟨m, F, s, w, wf, sl, (p.bind).imp fun x H1 ⟨m1, F1, dx, w1, f1, wf1, r1, p1⟩ => ?_⟩
    refine ⟨m1, F1, s, w1, wf1, sl.fm wf f1, (p1.bind).imp fun y H2 ⟨m2, F2, dy, w2, f2, wf2, r2, p2⟩ => ?_⟩
    obtain ⟨i, ei, p3⟩ := p2.lift
    obtain ⟨j, ej, p4⟩ := p3.lift
    obtain ⟨ds, ed, p5⟩ := p4.lift1
    have e1 := intD_some ei
    have e2 := intD_some ej
    subst e1
    subst e2
    obtain ⟨h1, h2, rfl⟩ := rangeD_some ed
    exact ⟨i, j, by rw [(wf1.rr r1 f2).int, r2.int], h1, p5 m2 F2 H2 _ (Fm.refl _ _ _) wf2 (goes_range h2)⟩

/-! ### zip -/
theorem goes_zip {K : PySem.W.Frag} {z : Zt} {m : Mu} {F : Fz} {H : Hp} {q r : Addr} {vs us : List V} {ds es : List D} (hz : vs.length ≤ sizeLine) (hq : F q) (hr : F r) (h1 : H q = some (.lst vs)) (h2 : H r = some (.lst us)) (r1 : RepAll z m F H vs ds) (r2 : RepAll z m F H us es) :
    Goes z m F H (Itz K q r) ((ds.zip es).map pairD) := ⟨by rw [List.length_map, List.length_zip, ← r1.length]; omega, fun m' F' H' w' f wf => by
  have g1 := f.kp q _ hq h1
  have g2 := f.kp r _ hr h2
  refine ⟨⟨vs, us, .inl (.inl g1), .inl (.inl g2), by rw [List.length_map, List.length_zip, r1.length, r2.length]; omega⟩, fun i d e => ?_⟩
  rw [List.getElem?_map] at e
  obtain ⟨p, ep, rfl⟩ := Option.map_eq_some_iff.mp e
  obtain ⟨e1, e2⟩ := List.getElem?_zip_eq_some.mp ep
  obtain ⟨v, ev, rv⟩ := r1.get e1
  obtain ⟨u, eu, ru⟩ := r2.get e2
  refine ⟨⟨vs, us, v, u, .inl (.inl g1), .inl (.inl g2), ev, eu⟩, fun x H'' hy => ?_⟩
  obtain ⟨T, x', y', rfl, hT, rfl, hx, hy⟩ := hy
  have q1 := hx vs (.inl (.inl g1))
  have q2 := hy us (.inl (.inl g2))
  rw [ev] at q1; cases q1
  rw [eu] at q2; cases q2
  exact ⟨frzA F' T, Fm.laidF hT, wf.laidF hT, .tup (.inr rfl) upd_same (.cons (wf.rep (Fm.laidF hT) (f.rep rv)) (.cons (wf.rep (Fm.laidF hT) (f.rep ru)) .nil))⟩⟩
theorem goes_zipT {K : PySem.W.Frag} {z : Zt} {m : Mu} {F : Fz} {H : Hp} {q r : Addr} {vs us : List V} {ds es : List D} (hz : vs.length ≤ sizeLine) (hq : F q) (hr : F r) (h1 : H q = some (.tup vs)) (h2 : H r = some (.tup us)) (r1 : RepAll z m F H vs ds) (r2 : RepAll z m F H us es) :
    Goes z m F H (RZ.ItzT K q r) ((ds.zip es).map pairD) := ⟨by rw [List.length_map, List.length_zip, ← r1.length]; omega, fun m' F' H' w' f wf => by
  have g1 := f.kp q _ hq h1
  have g2 := f.kp r _ hr h2
  refine ⟨⟨vs, us, .inl (.inl g1), .inl (.inl g2), by rw [List.length_map, List.length_zip, r1.length, r2.length]; omega⟩, fun i d e => ?_⟩
  rw [List.getElem?_map] at e
  obtain ⟨p, ep, rfl⟩ := Option.map_eq_some_iff.mp e
  obtain ⟨e1, e2⟩ := List.getElem?_zip_eq_some.mp ep
  obtain ⟨v, ev, rv⟩ := r1.get e1
  obtain ⟨u, eu, ru⟩ := r2.get e2
  refine ⟨⟨vs, us, v, u, .inl (.inl g1), .inl (.inl g2), ev, eu⟩, fun x H'' hy => ?_⟩
  obtain ⟨T, x', y', rfl, hT, rfl, hx, hy⟩ := hy
  have q1 := hx vs (.inl (.inl g1))
  have q2 := hy us (.inl (.inl g2))
  rw [ev] at q1; cases q1
  rw [eu] at q2; cases q2
  exact ⟨frzA F' T, Fm.laidF hT, wf.laidF hT, .tup (.inr rfl) upd_same (.cons (wf.rep (Fm.laidF hT) (f.rep rv)) (.cons (wf.rep (Fm.laidF hT) (f.rep ru)) .nil))⟩⟩
theorem si_zip {elts : List Expr} {kk : Nat} {tpos : Pos} (hg : Gl X "zip") (hm : X.mg "zip" = none) (ha : PE X a (rE b (evE cf ca))) (hb : PE X c (rE b (evE cf cb))) (hs : notStar a = true) (hs2 : notStar c = true) : PI X (.Tuple elts kk tpos) (.Call (.Name "zip" p1) [a, c] [] pos) (rI b (evI cf (.zip ca cb))) :=
  (RZ.pi_zipA hg hm (pa_cons ha.sized (pa_cons hb pa_nil (star_cons hs2)) (star_cons hs)) (star_cons hs) (by rw [star_cons hs2]; rfl)).imp fun σ H R ⟨m, F, sl, w, wf, sr, p⟩ => by
  have p : Post b m F H (bnd (evE cf ca sl) (fun x => bnd (evE cf cb sl) fun y => lift (zipD x y)) w) (Goes b.z) R := by simpa only [evI] using p
  refine ⟨m, F, sl, w, wf, sr, (p.bind).imp fun x H1 ⟨m1, F1, dx, w1, f1, wf1, r1, p1⟩ hsz => ?_⟩
  refine ⟨m1, F1, sl, w1, wf1, sr.fm wf f1, (p1.bind).imp fun y H2 ⟨m2, F2, dy, w2, f2, wf2, r2, p2⟩ => ?_⟩
  obtain ⟨ds, ed, p3⟩ := p2.lift1
  unfold zipD at ed
  split at ed
  · cases ed
    cases r1 with
    | lst k1 k2 k3 =>
      cases r2 with
      | lst l1 l2 l3 =>
        have hz := hsz _ _ rfl (.inl k2)
        have k2' := f2.keep _ _ k2 fun hm => wf1.nF _ hm k1
        exact ⟨_, _, _, _, rfl, .inl ⟨.inl (.inl k2'), .inl (.inl l2), p3 m2 F2 H2 _ (Fm.refl _ _ _) wf2 (goes_zip hz (f2.grow _ k1) l1 k2' l2 (wf1.repAll f2 k3) l3)⟩⟩
  · cases ed
    cases r1 with
    | tup k1 k2 k3 =>
      cases r2 with
      | tup l1 l2 l3 =>
        have hz := hsz _ _ rfl (.inr k2)
        have k2' := f2.keep _ _ k2 fun hm => wf1.nF _ hm k1
        exact ⟨_, _, _, _, rfl, .inr ⟨.inl (.inl k2'), .inl (.inl l2), p3 m2 F2 H2 _ (Fm.refl _ _ _) wf2 (goes_zipT hz (f2.grow _ k1) l1 k2' l2 (wf1.repAll f2 k3) l3)⟩⟩
  · cases ed
/-! ### enumerate -/
theorem enumL_get : ∀ (xs : List D) (n i : Nat), (enumL n xs)[i]? = (xs[i]?).map fun x => .tuple [.int ((n + i : Nat) : Int), x]
  | [], n, i => by simp [enumL]
  | x :: xs, n, 0 => by simp [enumL]
  | x :: xs, n, i + 1 => by
    unfold enumL
    rw [List.getElem?_cons_succ, List.getElem?_cons_succ, enumL_get xs (n + 1) i]
    have : n + 1 + i = n + (i + 1) := by omega
    rw [this]
theorem enumL_length : ∀ (xs : List D) (n : Nat), (enumL n xs).length = xs.length
  | [], _ => rfl
  | x :: xs, n => by unfold enumL; rw [List.length_cons, List.length_cons, enumL_length]
theorem goes_enum {K : PySem.W.Frag} {z : Zt} {m : Mu} {F : Fz} {H : Hp} {q : Addr} {vs : List V} {ds : List D} (hz : vs.length ≤ sizeLine) (hF : F q) (hq : H q = some (.lst vs)) (hr : RepAll z m F H vs ds) :
    Goes z m F H (Ite K q) (enumL 0 ds) := ⟨by rw [enumL_length, ← hr.length]; exact hz, fun m' F' H' w' f wf => by
  have h' := f.kp q _ hF hq
  refine ⟨⟨vs, .inl (.inl h'), by rw [enumL_length, hr.length]; exact Nat.le_refl _⟩, fun i d e => ?_⟩
  rw [enumL_get] at e
  obtain ⟨x0, e0, rfl⟩ := Option.map_eq_some_iff.mp e
  obtain ⟨v, e1, r⟩ := hr.get e0
  refine ⟨⟨vs, v, .inl (.inl h'), e1⟩, fun x H'' hy => ?_⟩
  obtain ⟨T, x', rfl, hT, rfl, hx⟩ := hy
  have q1 := hx vs (.inl (.inl h'))
  rw [e1] at q1
  cases q1
  rw [Nat.zero_add]
  exact ⟨frzA F' T, Fm.laidF hT, wf.laidF hT, .tup (.inr rfl) upd_same (.cons (.int _) (.cons (wf.rep (Fm.laidF hT) (f.rep r)) .nil))⟩⟩
theorem goes_enumT {K : PySem.W.Frag} {z : Zt} {m : Mu} {F : Fz} {H : Hp} {q : Addr} {vs : List V} {ds : List D} (hz : vs.length ≤ sizeLine) (hF : F q) (hq : H q = some (.tup vs)) (hr : RepAll z m F H vs ds) :
    Goes z m F H (IteT K q) (enumL 0 ds) := ⟨by rw [enumL_length, ← hr.length]; exact hz, fun m' F' H' w' f wf => by
  have h' := f.kp q _ hF hq
  refine ⟨⟨vs, .inl (.inl h'), by rw [enumL_length, hr.length]⟩, fun i d e => ?_⟩
  rw [enumL_get] at e
  obtain ⟨x0, e0, rfl⟩ := Option.map_eq_some_iff.mp e
  obtain ⟨v, e1, r⟩ := hr.get e0
  refine ⟨⟨vs, v, .inl (.inl h'), e1⟩, fun x H'' hy => ?_⟩
  obtain ⟨T, x', rfl, hT, rfl, hx⟩ := hy
  have q1 := hx vs (.inl (.inl h'))
  rw [e1] at q1
  cases q1
  rw [Nat.zero_add]
  exact ⟨frzA F' T, Fm.laidF hT, wf.laidF hT, .tup (.inr rfl) upd_same (.cons (.int _) (.cons (wf.rep (Fm.laidF hT) (f.rep r)) .nil))⟩⟩
theorem si_enum {elts : List Expr} {kk : Nat} {tpos : Pos} (hg : Gl X "enumerate") (hm : X.mg "enumerate" = none) (ha : PE X a (rE b (evE cf ca))) (hs : notStar a = true) : PI X (.Tuple elts kk tpos) (.Call (.Name "enumerate" p1) [a] [] pos) (rI b (evI cf (.enum ca))) :=
  (pi_enumA hg hm (pa_cons ha.sized pa_nil (star_cons hs)) (star_cons hs)).imp fun σ H R ⟨m, F, sl, w, wf, sr, p⟩ => by
  have p : Post b m F H (bnd (evE cf ca sl) (fun x => lift (enumD x)) w) (Goes b.z) R := by simpa only [evI] using p
  refine ⟨m, F, sl, w, wf, sr, (p.bind).imp fun x H1 ⟨m1, F1, dx, w1, f1, wf1, r1, p1⟩ hsz => ?_⟩
  obtain ⟨ds, ed, p2⟩ := p1.lift1
  unfold enumD at ed
  split at ed
  · cases ed
    cases r1 with
    | lst k1 k2 k3 => exact ⟨_, _, rfl, .inl ⟨.inl (.inl k2), p2 m1 F1 H1 _ (Fm.refl _ _ _) wf1 (goes_enum (hsz _ _ rfl (.inl k2)) k1 k2 k3)⟩⟩
  · cases ed
    cases r1 with
    | tup k1 k2 k3 => exact ⟨_, _, rfl, .inr ⟨.inl (.inl k2), p2 m1 F1 H1 _ (Fm.refl _ _ _) wf1 (goes_enumT (hsz _ _ rfl (.inr k2)) k1 k2 k3)⟩⟩
  · cases ed
end
end Ev

set_option Elab.async false
set_option linter.all false
set_option maxRecDepth 100000
set_option autoImplicit false
/-! EvS8: comprehensions. -/
namespace Ev
open PySem PySem.Spec PyProof.Rows L2
/-- no exception leaves a block -/
abbrev Bx.no (b : Bx) : Bx := { b with E := fun _ _ _ => False }
theorem bnd_ret {α : Type} (x : M α) : bnd x ret = x := by
  funext w
  unfold bnd ret
  cases x w <;> rfl
/-- one turn of a comprehension's block -/
def turnC (cf : CF) (elt : E) (tg : Tg) (ifs : Ts) (s : Sl) (d : D) : M (Option D) :=
  bnd (lift (bindT tg d s)) fun s' => bnd (evTs cf ifs s') fun b => if b then (bnd (evE cf elt s') fun x => ret (some x)) else ret none
section
variable {α β : Type} {x : M α} {k : α → M β} {w w' : W} {a : α} {c : Nat}
theorem bnd_ok (h : x w = .ok a w') : bnd x k w = k a w' := by unfold bnd; rw [h]
theorem bnd_exc (h : x w = .exc c w') : bnd x k w = .exc c w' := by unfold bnd; rw [h]
theorem bnd_bad (h : x w = .bad) : bnd x k w = .bad := by unfold bnd; rw [h]
theorem nox_ok (h : x w = .ok a w') : nox x w = .ok a w' := by unfold nox; rw [h]
theorem nox_exc (h : x w = .exc c w') : nox x w = .bad := by unfold nox; rw [h]
theorem nox_bad (h : x w = .bad) : nox x w = .bad := by unfold nox; rw [h]
theorem nox_eq {y : M α} (h : x w = y w') : nox x w = nox y w' := by unfold nox; rw [h]
end
section
variable {f : D → M (Option D)} {d x : D} {ds : List D} {w w' : W} {c : Nat}
theorem compL_some (h : f d w = .ok (some x) w') : compL f (d :: ds) w = bnd (compL f ds) (fun r => ret (x :: r)) w' := by
  rw [compL]
  exact bnd_ok h
theorem compL_none (h : f d w = .ok none w') : compL f (d :: ds) w = compL f ds w' := by
  rw [compL]
  refine (bnd_ok h).trans ?_
  show bnd (compL f ds) ret w' = _
  rw [bnd_ret]
theorem compL_exc (h : f d w = .exc c w') : compL f (d :: ds) w = .exc c w' := by
  rw [compL]
  exact bnd_exc h
theorem compL_bad (h : f d w = .bad) : compL f (d :: ds) w = .bad := by
  rw [compL]
  exact bnd_bad h
end
theorem wipe_wipe (σ : L2.St) (vs : List Nat) : L2.wipe (L2.wipe σ vs) vs = L2.wipe σ vs := wipe_agree vs (wipe_length σ vs) fun j hj => wipe_out hj
section
variable {X : Cx} {b : Bx} {cf : CF} {tg iter elt : Expr} {ifs : List Expr} {scope : Scope} {own : List (Str × Nat)} {pos : Pos} {tgc : Tg} {itc : I} {ifc : Ts} {ec : E}
theorem comp_pre {Rl : Mu → Fz → Hp → V → D → Prop} {σ : L2.St} {H : Hp} {Q : VK} (hsl : ∀ j ∈ slotsT tgc, j ∈ own.map (·.2))
    (hR : ∀ m F Hx w a vs ds m1 F1 H1, (∀ c, H1 c = none → H c = none) → Fm m1 F1 H1 m F Hx → H1 a = none → Wf b.z m F w Hx → ¬ F a → a ∉ m.flatten → Hx a = some (.lst vs) → RepAll b.z m F Hx vs ds → ∀ Q : VK, Post b m1 F1 H1 (.ok (.list ds) w) Rl Q → Q (.ref a) Hx)
    (h : rd b Rl (fun s => bnd (evI cf itc s) fun ds => bnd (nox (compL (turnC cf ec tgc ifc (wipeA s (own.map (·.2)))) ds)) fun r => ret (.list r)) σ H Q) :
    tLc (rI b (evI cf itc)) (rG b.no tgc) (rT b.no (evTs cf ifc)) (rE b.no (evE cf ec)) (own.map (·.2)) σ H Q := by
  obtain ⟨m, F, s, w, wf, sl, p⟩ := h
  refine ⟨m, F, s, w, wf, sl, (p.bind).imp fun J H1 ⟨m1, F1, ds, w1, f1, wf1, goes, p1⟩ => ?_⟩
  intro D hD
  obtain ⟨hlen, goes⟩ := goes
  generalize hf : turnC cf ec tgc ifc (wipeA s (own.map (·.2))) = f at p1
  refine ⟨fun i k Hc => k + i = ds.length ∧ ∃ m2 F2 w2 acc rs, Fm m1 F1 H1 m2 F2 Hc ∧ Wf b.z m2 F2 w2 Hc ∧ ¬ F2 D ∧ D ∉ m2.flatten ∧ Hc D = some (.lst acc) ∧ RepAll b.z m2 F2 Hc acc rs ∧ acc.length ≤ i ∧
    Post b m1 F1 H1 (bnd (nox (compL f (ds.drop i))) (fun r => ret (.list (rs ++ r))) w2) Rl Q, ⟨ds.length, rfl, m1, F1, w1, [], [], Fm.laid hD, wf1.laid hD, ?_, ?_, upd_same, .nil, Nat.le_refl _, ?_⟩, ?_⟩
  · intro hF
    obtain ⟨o, ho⟩ := wf1.dom D hF
    rw [hD] at ho; cases ho
  · intro hm
    obtain ⟨o, ho⟩ := wf1.mdom D hm
    rw [hD] at ho; cases ho
  · exact p1
  · rintro i k Hc ⟨hk, m2, F2, w2, acc, rs, f2, wf2, nF, nM, hacc, hr, hai, pc⟩
    obtain ⟨stop, go⟩ := goes m2 F2 Hc w2 (wf1.fk f2) wf2
    by_cases hi : i < ds.length
    · refine .inr ?_
      have ed : ds[i]? = some ds[i] := List.getElem?_eq_getElem hi
      rw [List.drop_eq_getElem_cons hi] at pc
      generalize hd : ds[i] = d at ed pc
      obtain ⟨g1, g2⟩ := go i d ed
      -- the turn
      have key : ∃ s' c w3, bindT tgc d (wipeA s (own.map (·.2))) = some s' ∧ evTs cf ifc s' w2 = .ok c w3 := by
        cases e1 : bindT tgc d (wipeA s (own.map (·.2))) with
        | none =>
          have : f d w2 = .bad := by
            rw [← hf]
            unfold turnC
            rw [e1]
            rfl
          rw [bnd_bad (nox_bad (compL_bad this))] at pc
          exact pc.elim
        | some s' =>
          refine ⟨s', ?_⟩
          cases e2 : evTs cf ifc s' w2 with
          | ok c w3 => exact ⟨c, w3, rfl, rfl⟩
          | exc c w3 =>
            have : f d w2 = .exc c w3 := by
              rw [← hf]
              unfold turnC
              rw [e1]
              exact (bnd_ok (x := lift (some s')) (a := s') (w' := w2) rfl).trans (bnd_exc e2)
            rw [bnd_bad (nox_exc (compL_exc this))] at pc
            exact pc.elim
          | bad =>
            have : f d w2 = .bad := by
              rw [← hf]
              unfold turnC
              rw [e1]
              exact (bnd_ok (x := lift (some s')) (a := s') (w' := w2) rfl).trans (bnd_bad e2)
            rw [bnd_bad (nox_bad (compL_bad this))] at pc
            exact pc.elim
      obtain ⟨s', c, w3, e1, e2⟩ := key
      have ef : f d w2 = (if c then (bnd (evE cf ec s') fun x => ret (some x)) else ret none) w3 := by
        rw [← hf]
        unfold turnC
        rw [e1]
        exact bnd_ok e2
      refine ⟨g1, fun Hn => ds.length - (i + 1) + (i + 1) = ds.length ∧ ∃ m2 F2 w2 acc rs, Fm m1 F1 H1 m2 F2 Hn ∧ Wf b.z m2 F2 w2 Hn ∧ ¬ F2 D ∧ D ∉ m2.flatten ∧ Hn D = some (.lst acc) ∧ RepAll b.z m2 F2 Hn acc rs ∧ acc.length ≤ i + 1 ∧
        Post b m1 F1 H1 (bnd (nox (compL f (ds.drop (i + 1)))) (fun r => ret (.list (rs ++ r))) w2) Rl Q, fun Hn hn => ⟨ds.length - (i + 1), by omega, hn⟩, fun x H3 hy => ?_⟩
      obtain ⟨F3, f3, wf3, r3⟩ := g2 x H3 hy
      have fh3 := f1.trans (f2.trans f3)
      refine ⟨m2, F3, wipeA s (own.map (·.2)), w2, d, s', wf3, (sl.fm wf fh3).wipe _, r3, e1, fun σ2 sr2 l2 ag2 => ⟨?_, ?_⟩⟩
      · rw [wipe_agree (own.map (·.2)) l2 fun j hj => ag2 j fun hm => hj (hsl j hm)]
        exact wipe_wipe _ _
      refine ⟨m2, F3, s', w2, wf3, sr2, ?_⟩
      rw [e2]
      intro m4 F4 H4 v4 f4 wf4 hv
      cases (show v4 = c from hv)
      have f34 := f3.trans f4
      have hacc4 := f34.keep D _ hacc nM
      have nM4 := f34.out hacc nM
      have nF4 : ¬ F4 D := fun q => by
        rcases f34.fnew D q with z | z
        · exact nF z
        · rw [hacc] at z; cases z
      cases c with
      | false =>
        refine iteF ⟨by omega, m4, F4, w3, acc, rs, f2.trans f34, wf4, nF4, nM4, hacc4, wf2.repAll f34 hr, by omega, ?_⟩
        have : nox (compL f (d :: ds.drop (i + 1))) w2 = nox (compL f (ds.drop (i + 1))) w3 := nox_eq (compL_none ef)
        unfold bnd at pc ⊢
        rw [this] at pc
        exact pc
      | true =>
        refine iteT ⟨m4, F4, s', w3, wf4, sr2.fm wf3 f4, ?_⟩
        have ef' : f d w2 = bnd (evE cf ec s') (fun x => ret (some x)) w3 := ef
        cases e3 : evE cf ec s' w3 with
        | ok x5 w5 =>
          intro m6 F6 H6 v6 f6 wf6 r6
          have f36 := f34.trans f6
          have hacc6 := f36.keep D _ hacc nM
          have nM6 := f36.out hacc nM
          have nF6 : ¬ F6 D := fun q => by
            rcases f36.fnew D q with z | z
            · exact nF z
            · rw [hacc] at z; cases z
          refine ⟨acc, hacc6, by omega, by omega, m6, F6, w5, acc ++ [v6], rs ++ [x5], (f2.trans f36).updNew hD, wf6.updA nF6 nM6, nF6, nM6, upd_same, ?_, by rw [List.length_append, List.length_singleton]; omega, ?_⟩
          · exact ((wf2.repAll f36 hr).append (.cons r6 .nil)).mono (Kp.updA nF6) (fun _ h => h) (fun _ _ h => h)
          · have ef2 : f d w2 = .ok (some x5) w5 := ef'.trans (bnd_ok e3)
            have : (bnd (nox (compL f (d :: ds.drop (i + 1)))) fun r => ret (PyData.list (rs ++ r))) w2 = (bnd (nox (compL f (ds.drop (i + 1)))) fun r => ret (PyData.list (rs ++ [x5] ++ r))) w5 := by
              have e4 := compL_some (ds := ds.drop (i + 1)) ef2
              cases e5 : compL f (ds.drop (i + 1)) w5 with
              | ok r w6 =>
                rw [bnd_ok (nox_ok (e4.trans (bnd_ok e5))), bnd_ok (nox_ok e5), List.append_assoc]
                rfl
              | exc _ _ => rw [bnd_bad (nox_exc (e4.trans (bnd_exc e5))), bnd_bad (nox_exc e5)]
              | bad => rw [bnd_bad (nox_bad (e4.trans (bnd_bad e5))), bnd_bad (nox_bad e5)]
            rw [this] at pc
            exact pc
        | exc c5 w5 =>
          rw [bnd_bad (nox_exc (compL_exc (ef'.trans (bnd_exc e3))))] at pc
          exact pc.elim
        | bad =>
          rw [bnd_bad (nox_bad (compL_bad (ef'.trans (bnd_bad e3))))] at pc
          exact pc.elim
    · refine .inl ?_
      have ei : i = ds.length := by omega
      subst ei
      refine ⟨stop, ?_⟩
      rw [List.drop_length] at pc
      have pc : Post b m1 F1 H1 (.ok (.list (rs ++ [])) w2) Rl Q := pc
      rw [List.append_nil] at pc
      exact hR m2 F2 Hc w2 D acc rs m1 F1 H1 (fun c hc => f1.unlaid hc) f2 hD wf2 nF nM hacc hr Q pc
end
end Ev

set_option Elab.async false
set_option linter.all false
set_option maxRecDepth 100000
set_option autoImplicit false
/-! EvS9: calls of the program's own defs; comprehensions as nodes. -/
namespace Ev
open PySem PySem.Spec PyProof.Rows L2
/-- the promise of a def that is worth f -/
def spF (z : Zt) (cl : Nat → Value) (f : List D → M D) (np : Nat) : Sp := fun vs H Q E =>
  vs.length = np ∧ ∃ m F w ds, Wf z m F w H ∧ RepAll z m F H vs ds ∧ Post ⟨z, cl, E, H, m, F⟩ m F H (f ds w) (Rep z) Q
/-- how n arguments by position and the others by name bind -/
def KB (K : PySem.W.Frag) (fd : FuncData) (ps : List Str) (n : Nat) : Prop := ∀ (s : Shared) (us ws : List Value), K.In s.heap → us.length = n → us.length + ws.length = ps.length → BindsTo s fd ⟨us, (ps.drop n).zip ws⟩ (ps.zip (us ++ ws))
theorem star_any {env : Env} {pos : Pos} : ∀ {es : List Expr}, es.all notStar = true → (backTo pos (starEach es env)).any (·.1) = false
  | [], _ => rfl
  | e :: es, h => by
    rw [List.all_cons, Bool.and_eq_true] at h
    rw [star_cons h.1]
    show (false || (backTo pos (starEach es env)).any (·.1)) = false
    rw [star_any h.2]
    rfl
def lenEs : Es → Nat
  | .nil => 0
  | .cons _ es => lenEs es + 1
theorem evEs_len {cf : CF} : ∀ (es : Es) (s : Sl) (w : W) (ds : List D) (w' : W), evEs cf es s w = .ok ds w' → ds.length = lenEs es
  | .nil, s, w, ds, w', h => by
    have h : R.ok [] w = R.ok ds w' := by simp only [evEs] at h; exact h
    cases h
    rfl
  | .cons e es, s, w, ds, w', h => by
    have h : bnd (evE cf e s) (fun x => bnd (evEs cf es s) fun r => ret (x :: r)) w = .ok ds w' := by simpa only [evEs] using h
    cases e1 : evE cf e s w with
    | ok x w1 =>
      rw [bnd_ok e1] at h
      cases e2 : evEs cf es s w1 with
      | ok r w2 =>
        rw [bnd_ok e2] at h
        cases h
        rw [List.length_cons, evEs_len es s w1 r _ e2]
        rfl
      | exc c w2 =>
        rw [bnd_exc e2] at h
        cases h
      | bad =>
        rw [bnd_bad e2] at h
        cases h
    | exc c w2 =>
      rw [bnd_exc e1] at h
      cases h
    | bad => rw [bnd_bad e1] at h; cases h
section
variable {X : Cx} {b : Bx} {cf : CF} {k i : Nat} {f : Addr} {fd : FuncData} {ps : List Str} {x : Str} {p pos : Pos} {e : Expr} {es : List Expr} {cs : Es}
theorem call_pre {σ : L2.St} {H : Hp} {Q : VK} (hl : lenEs cs = ps.length) (h : rd b (Rep b.z) (fun s => bnd (evEs cf cs s) fun ds => cf i ds) σ H Q) : tCall (spF b.z b.cl (cf i) ps.length) [] b.E (rA b (evEs cf cs)) σ H Q := by
  obtain ⟨m, F, s, w, wf, sl, p⟩ := h
  have p : Post b m F H (bnd (evEs cf cs s) (fun ds => cf i ds) w) (Rep b.z) Q := p
  refine ⟨m, F, s, w, wf, sl, ?_⟩
  have hlen := evEs_len (cf := cf) cs s w
  cases e1 : evEs cf cs s w with
  | ok ds w1 =>
    rw [bnd_ok e1] at p
    intro m1 F1 H1 vs f1 wf1 r1
    rw [List.append_nil]
    exact ⟨by rw [r1.length, hlen ds w1 e1, hl], m1, F1, w1, ds, wf1, r1, Post.after p f1⟩
  | exc c w1 =>
    rw [bnd_exc e1] at p
    exact p
  | bad =>
    rw [bnd_bad e1] at p
    exact p
theorem se_call (F : FnOk X.prog X.w X.K X.mg X.base (L2.CX X.prog X.w) k f fd ps (spF b.z b.cl (cf i) ps.length)) (hr : Room k X.A) (hg : Gl X x) (hm : X.mg x = some (.ref f)) (hk : PySem.W.keepIn X.K (.ref f) = true) (hb : Binds X.K fd ps []) (tk : Takes X (fun cls d _ H => b.E cls d H))
    (ha : PA X (e :: es) (rA b (evEs cf cs))) (hl : lenEs cs = ps.length) (hs : (e :: es).all notStar = true) (hdb : (x == ("__debug__" : Str)) = false) : PE X (.Call (.Name x p) (e :: es) [] pos) (rE b (evE cf (.call i cs))) := by
  rw [List.all_cons, Bool.and_eq_true] at hs
  exact (pe_call F hr hg hm hk hb .nil (passes_call tk fun _ _ _ _ h => h) ha hdb (star_cons hs.1) (star_any hs.2)).imp fun σ H Q h => call_pre hl (by simpa only [evE] using h)
theorem se_call0 (F : FnOk X.prog X.w X.K X.mg X.base (L2.CX X.prog X.w) k f fd ps (spF b.z b.cl (cf i) ps.length)) (hr : Room k X.A) (hg : Gl X x) (hm : X.mg x = some (.ref f)) (hk : PySem.W.keepIn X.K (.ref f) = true) (hb : Binds X.K fd ps []) (tk : Takes X (fun cls d _ H => b.E cls d H))
    (hl : ps.length = 0) (hdb : (x == ("__debug__" : Str)) = false) : PE X (.Call (.Name x p) [] [] pos) (rE b (evE cf (.call i .nil))) :=
  (pe_call0 F hr hg hm hk hb .nil (passes_call tk fun _ _ _ _ h => h) hdb).imp fun σ H Q h => by
    obtain ⟨m, F, s, w, wf, sl, p⟩ := h
    have p : Post b m F H (cf i [] w) (Rep b.z) Q := by simp only [evE, evEs] at p; exact p
    exact ⟨hl.symm, m, F, w, [], wf, .nil, p⟩
/-- arguments by name -/
theorem sk_nil : PK X [] (rA b (evEs cf .nil)) := ⟨fun pos pins s σ H Q I ⟨m, F, sl, w, wf, sr, p⟩ => pk_nil.run pos pins s σ H Q I (p m F H [] (Fm.refl _ _ _) wf .nil)⟩
theorem sk_cons {nm : Option Str} {kpos : Pos} {kws : List Keyword} {c : E} (he : PE X e (rE b (evE cf c))) (hes : PK X kws (rA b (evEs cf cs))) : PK X (⟨nm, e, kpos⟩ :: kws) (rA b (evEs cf (.cons c cs))) :=
  ⟨fun pos pins s σ H Q I h => (pk_cons he hes).run pos pins s σ H Q I (by
    obtain ⟨m, F, s, w, wf, sl, p⟩ := h
    have p : Post b m F H (bnd (evE cf c s) (fun x => bnd (evEs cf cs s) fun r => ret (x :: r)) w) (RepAll b.z) Q := by simpa only [evEs] using p
    refine ⟨m, F, s, w, wf, sl, (p.bind).imp fun x H1 ⟨m1, F1, d, w1, f1, wf1, r1, p1⟩ => ?_⟩
    refine ⟨m1, F1, s, w1, wf1, sl.fm wf f1, (p1.bind).imp fun xs H2 ⟨m2, F2, ds, w2, f2, wf2, r2, p2⟩ => ?_⟩
    exact p2 m2 F2 H2 _ (Fm.refl _ _ _) wf2 (.cons (wf1.rep f2 r1) r2))⟩
def appEs : Es → Es → Es
  | .nil, e => e
  | .cons a r, e => .cons a (appEs r e)
theorem bnd_assoc {α β γ : Type} (x : M α) (f : α → M β) (g : β → M γ) : bnd (bnd x f) g = bnd x fun a => bnd (f a) g := by
  funext w
  unfold bnd
  cases x w <;> rfl
theorem evEs_app (s : Sl) : ∀ (a c : Es) , evEs cf (appEs a c) s = bnd (evEs cf a s) fun xs => bnd (evEs cf c s) fun ys => ret (xs ++ ys)
  | .nil, c => by
    simp only [appEs, evEs]
    funext w
    show _ = bnd (evEs cf c s) ret w
    rw [bnd_ret]
  | .cons e r, c => by
    simp only [appEs, evEs]
    rw [bnd_assoc]
    congr 1
    funext x
    rw [evEs_app s r c, bnd_assoc, bnd_assoc]
    congr 1
    funext xs
    rw [bnd_assoc]
    rfl
def kwOk (ks : List Str) : List Keyword → Bool
  | [] => ks.isEmpty
  | ⟨some n, _, _⟩ :: r => match ks with
    | k :: ks' => (n == k) && kwOk ks' r
    | [] => false
  | ⟨none, _, _⟩ :: _ => false
theorem kw_all {env : Env} : ∀ {ks : List Str} {kws : List Keyword}, kwOk ks kws = true → (backToKw pos (keywordEach kws env)).all (·.1.isSome) = true ∧ (backToKw pos (keywordEach kws env)).filterMap (·.1) = ks ∧ (backToKw pos (keywordEach kws env)).any (·.1.isNone) = false
  | ks, [], h => by
    have : ks = [] := by simpa [kwOk] using h
    subst this
    exact ⟨rfl, rfl, rfl⟩
  | ks, ⟨some n, v, q⟩ :: r, h => by
    cases ks with
    | nil => simp [kwOk] at h
    | cons k ks =>
      unfold kwOk at h
      rw [Bool.and_eq_true] at h
      obtain ⟨h1, h2, h3⟩ := kw_all (env := env) h.2
      have en : n = k := beq_iff_eq.mp h.1
      subst en
      refine ⟨?_, ?_, ?_⟩
      · show (true && (backToKw pos (keywordEach r env)).all (·.1.isSome)) = true
        rw [h1]; rfl
      · show n :: (backToKw pos (keywordEach r env)).filterMap (·.1) = _
        rw [h2]
      · show (false || (backToKw pos (keywordEach r env)).any (·.1.isNone)) = false
        rw [h3]; rfl
  | _, ⟨none, _, _⟩ :: _, h => by simp [kwOk] at h
theorem run_kb {pins : List (Addr × Obj)} {σ : L2.St} {H : Hp} {s : Shared} {Q : VK} {n : Nat} {us ws : List Value} {vs zs : List V} {sp : Sp} (F : FnOk X.prog X.w X.K X.mg X.base (L2.CX X.prog X.w) k f fd ps sp) (hr : Room k X.A) (hb : KB X.K fd ps n) (hx : Passes (L2.CX X.prog X.w) X b.E)
    (I : Inv X pins σ H s) (r : Vals vs us) (rz : Vals zs ws) (hn : vs.length = n) (h : sp (vs ++ zs) H Q b.E) : wpAny (model X.prog X.w) X.A (call (.ref f) us ((ps.drop n).zip ws)) (EP X pins σ Q) X.xe s := by
  have r2 := r.append rz
  have hl : us.length + ws.length = ps.length := by
    have := F.len _ _ _ _ h
    rw [List.length_append] at this
    rw [← r.length, ← rz.length]
    exact this
  refine wpAny_call (codeAny_mono (F.run X.A X.stack s H ⟨us, (ps.drop n).zip ws⟩ (us ++ ws) (vs ++ zs) Q b.E hr I.env0 (hb s us ws I.kIn (by rw [← r.length]; exact hn) hl) r2 h) fun r s' hq => ?_)
  cases r with
  | error e => exact hx pins σ H s e s' I hq
  | ok fl =>
    cases fl with
    | ret u => exact I.after hq
    | next => exact False.elim hq
    | brk => exact False.elim hq
    | cont => exact False.elim hq
theorem callk_pre {cs ks : Es} {σ : L2.St} {H : Hp} {Q : VK} (hl : lenEs cs + lenEs ks = ps.length) (h : rd b (Rep b.z) (fun s => bnd (evEs cf (appEs cs ks) s) fun ds => cf i ds) σ H Q) :
    rA b (evEs cf cs) σ H fun vs H1 => vs.length = lenEs cs ∧ rA b (evEs cf ks) σ H1 fun zs H2 => spF b.z b.cl (cf i) ps.length (vs ++ zs) H2 Q b.E := by
  obtain ⟨m, F, s, w, wf, sl, p⟩ := h
  have p : Post b m F H (bnd (evEs cf cs s) (fun xs => bnd (evEs cf ks s) fun ys => cf i (xs ++ ys)) w) (Rep b.z) Q := by
    have p : Post b m F H (bnd (evEs cf (appEs cs ks) s) (fun ds => cf i ds) w) (Rep b.z) Q := p
    rw [evEs_app, bnd_assoc] at p
    have e : (fun a => bnd (bnd (evEs cf ks s) fun ys => ret (a ++ ys)) fun ds => cf i ds) = fun xs => bnd (evEs cf ks s) fun ys => cf i (xs ++ ys) := by
      funext a
      rw [bnd_assoc]
      rfl
    rw [e] at p
    exact p
  have hlen := evEs_len (cf := cf) cs s w
  have hl2 := evEs_len (cf := cf) ks s
  refine ⟨m, F, s, w, wf, sl, ?_⟩
  cases e1 : evEs cf cs s w with
  | ok ds w1 =>
    rw [bnd_ok e1] at p
    intro m1 F1 H1 vs f1 wf1 r1
    refine ⟨by rw [r1.length, hlen ds w1 e1], m1, F1, s, w1, wf1, sl.fm wf f1, ?_⟩
    cases e2 : evEs cf ks s w1 with
    | ok ds2 w2 =>
      rw [bnd_ok e2] at p
      intro m2 F2 H2 zs f2 wf2 r2
      exact ⟨by rw [List.length_append, r1.length, r2.length, hlen ds w1 e1, hl2 w1 ds2 w2 e2, hl], m2, F2, w2, ds ++ ds2, wf2, (wf1.repAll f2 r1).append r2, Post.after p (f1.trans f2)⟩
    | exc c w2 =>
      rw [bnd_exc e2] at p
      exact fun m' F' H' g => p m' F' H' (f1.trans g)
    | bad =>
      rw [bnd_bad e2] at p
      exact p
  | exc c w1 =>
    rw [bnd_exc e1] at p
    exact p
  | bad =>
    rw [bnd_bad e1] at p
    exact p
theorem se_callk {kws : List Keyword} {ks : Es} (F : FnOk X.prog X.w X.K X.mg X.base (L2.CX X.prog X.w) k f fd ps (spF b.z b.cl (cf i) ps.length)) (hr : Room k X.A) (hg : Gl X x) (hm : X.mg x = some (.ref f)) (hk : PySem.W.keepIn X.K (.ref f) = true) (hb : KB X.K fd ps (lenEs cs)) (tk : Takes X (fun cls d _ H => b.E cls d H))
    (ha : PA X (e :: es) (rA b (evEs cf cs))) (hkw : PK X kws (rA b (evEs cf ks))) (hl : lenEs cs + lenEs ks = ps.length) (hs : (e :: es).all notStar = true) (ho : kwOk (ps.drop (lenEs cs)) kws = true) (hdb : (x == ("__debug__" : Str)) = false) :
    PE X (.Call (.Name x p) (e :: es) kws pos) (rE b (evE cf (.call i (appEs cs ks)))) := by
  have hsa := hs
  rw [List.all_cons, Bool.and_eq_true] at hs
  obtain ⟨k1, k2, k3⟩ := kw_all (pos := pos) (env := X.env) ho
  refine ⟨fun pins s σ H Q I h => ?_⟩
  have h := callk_pre hl (show rd b (Rep b.z) (fun s => bnd (evEs cf (appEs cs ks) s) fun ds => cf i ds) σ H Q by simpa only [evE] using h)
  refine wpAny_Call_Name_kw (ld_glob I hg hm ?_ hdb)
  refine PySem.W.callWith_KW (h₀ := X.base) I.ok.mod.kin hk k1 (thn (ha.run pos pins s σ H _ I h) fun us s1 ⟨vs, H1, I1, r, hn, q⟩ => ?_) (by rw [star_any hsa, k3]; rfl) (star_cons hs.1)
  refine thn (hkw.run pos pins s1 σ H1 _ I1 q) fun ws s2 ⟨zs, H2, I2, rz, q2⟩ => ⟨I2.kIn, ?_⟩
  rw [k2]
  exact run_kb F hr hb (passes_call tk fun _ _ _ _ h => h) I2 r rz hn q2
theorem se_callk0 {kws : List Keyword} {ks : Es} (F : FnOk X.prog X.w X.K X.mg X.base (L2.CX X.prog X.w) k f fd ps (spF b.z b.cl (cf i) ps.length)) (hr : Room k X.A) (hg : Gl X x) (hm : X.mg x = some (.ref f)) (hk : PySem.W.keepIn X.K (.ref f) = true) (hb : KB X.K fd ps 0) (tk : Takes X (fun cls d _ H => b.E cls d H))
    (hkw : PK X kws (rA b (evEs cf ks))) (hl : lenEs ks = ps.length) (ho : kwOk ps kws = true) (hdb : (x == ("__debug__" : Str)) = false) :
    PE X (.Call (.Name x p) [] kws pos) (rE b (evE cf (.call i ks))) := by
  obtain ⟨k1, k2, k3⟩ := kw_all (pos := pos) (env := X.env) ho
  refine ⟨fun pins s σ H Q I h => ?_⟩
  have h := call_pre hl (show rd b (Rep b.z) (fun s => bnd (evEs cf ks s) fun ds => cf i ds) σ H Q by simpa only [evE] using h)
  refine wpAny_Call_Name_kw (ld_glob I hg hm ?_ hdb)
  refine PySem.W.callWith_KW0 (h₀ := X.base) I.ok.mod.kin hk k1 (thn (hkw.run pos pins s σ H _ I h) fun ws s2 ⟨zs, H2, I2, rz, q2⟩ => ⟨I2.kIn, ?_⟩) (by rw [k3]; rfl)
  rw [k2]
  have q2 : spF b.z b.cl (cf i) ps.length (zs ++ []) H2 Q b.E := q2
  rw [List.append_nil] at q2
  exact run_kb (us := []) (vs := []) (n := 0) F hr hb (passes_call tk fun _ _ _ _ h => h) I2 .nil rz rfl q2
end
end Ev

set_option Elab.async false
set_option linter.all false
set_option maxRecDepth 100000
set_option autoImplicit false
/-! EvS10: statements. -/
namespace Ev
open PySem PySem.Spec PyProof.Rows L2
/-- the state between two statements -/
structure RelS (b : Bx) (m : Mu) (F : Fz) (s : Sl) (w : W) (σ : L2.St) (H : Hp) : Prop where
  wf : Wf b.z m F w H
  sl : SlR b.z m F b.H0 s σ H
  fm : Fm b.m0 b.F0 b.H0 m F H
def PostS (b : Bx) (m : Mu) (F : Fz) (H : Hp) (r : R Fl) (D : Ends) : Prop :=
  match r with
  | .ok (.nx s') w' => ∀ m' F' H' σ', Fk m F H m' F' H' → RelS b m' F' s' w' σ' H' → D.nx σ' H'
  | .ok (.ct s') w' => ∀ m' F' H' σ', Fk m F H m' F' H' → RelS b m' F' s' w' σ' H' → D.ct σ' H'
  | .ok (.rt d) w' => ∀ m' F' H' v, Wf b.z m' F' w' H' → Fm b.m0 b.F0 b.H0 m' F' H' → Rep b.z m' F' H' v d → D.rt v H'
  | .exc c w' => ∀ m' F' H', Wf b.z m' F' w' H' → Fm b.m0 b.F0 b.H0 m' F' H' → b.E (b.cl c) none H'
  | .bad => False
def rS (b : Bx) (f : Sl → M Fl) : TS := fun D σ H => ∃ m F s w, RelS b m F s w σ H ∧ PostS b m F H (f s w) D
section
variable {α β : Type} {b : Bx} {m m1 : Mu} {F F1 : Fz} {H H1 : Hp} {D D' : Ends} {w : W}
theorem PostS.after {r : R Fl} (h : PostS b m F H r D) (f : Fk m F H m1 F1 H1) : PostS b m1 F1 H1 r D := by
  cases r with
  | ok d w' =>
    cases d with
    | nx s' => exact fun m' F' H' σ' g => h m' F' H' σ' (f.trans g)
    | ct s' => exact fun m' F' H' σ' g => h m' F' H' σ' (f.trans g)
    | rt d => exact h
  | exc c w' => exact h
  | bad => exact h
theorem PostS.bind {x : M α} {k : α → M Fl} {Rl : Mu → Fz → Hp → β → α → Prop} (fm : Fm b.m0 b.F0 b.H0 m F H) (wf : Wf b.z m F w H) (h : PostS b m F H (bnd x k w) D) :
    Post b m F H (x w) Rl (fun v H1 => ∃ m1 F1 d w1, Fm m F H m1 F1 H1 ∧ Wf b.z m1 F1 w1 H1 ∧ Rl m1 F1 H1 v d ∧ PostS b m1 F1 H1 (k d w1) D) := by
  cases e : x w with
  | ok d w' =>
    rw [bnd_ok e] at h
    exact fun m' F' H' v g wf' rl => ⟨m', F', d, w', g, wf', rl, PostS.after h (wf.fk g)⟩
  | exc c w' =>
    rw [bnd_exc e] at h
    exact fun m' F' H' g wf' => h m' F' H' wf' (fm.trans g)
  | bad =>
    rw [bnd_bad e] at h
    exact h
theorem PostS.lift {o : Option α} {k : α → M Fl} (h : PostS b m F H (bnd (Ev.lift o) k w) D) : ∃ a, o = some a ∧ PostS b m F H (k a w) D := by
  cases o with
  | none => exact h.elim
  | some a => exact ⟨a, rfl, h⟩
end
theorem RelS.step {b : Bx} {m m' : Mu} {F F' : Fz} {s : Sl} {w w' : W} {σ : L2.St} {H H' : Hp} (x : RelS b m F s w σ H) (f : Fm m F H m' F' H') (wf : Wf b.z m' F' w' H') : RelS b m' F' s w' σ H' := ⟨wf, x.sl.fm x.wf f, x.fm.trans f⟩

/-! ### a new object for a slot -/
def FreshR (z : Zt) (Hs : Hp) (m : Mu) (F : Fz) (H : Hp) (v : V) (d : D) : Prop := ∃ a, v = .ref a ∧ Hs a = none ∧ ¬ F a ∧ a ∉ m.flatten ∧
  ((∃ vs ds, d = .list ds ∧ H a = some (.lst vs) ∧ RepAll z m F H vs ds) ∨ ∃ o kvs, d = .dict kvs ∧ H a = some o ∧ RepD z m F H a o kvs)
def rF (b : Bx) (f : Sl → M D) : TE := fun σ H Q => ∃ m F s w, Wf b.z m F w H ∧ SlR b.z m F b.H0 s σ H ∧ Post b m F H (f s w) (FreshR b.z H) Q
theorem wf_new {z : Zt} {m : Mu} {F : Fz} {w : W} {H : Hp} (wf : Wf z m F w H) {a : Addr} (h : H a = none) : ¬ F a ∧ a ∉ m.flatten := by
  constructor
  · intro hF
    obtain ⟨o, ho⟩ := wf.dom a hF
    rw [h] at ho
    cases ho
  · intro hm
    obtain ⟨o, ho⟩ := wf.mdom a hm
    rw [h] at ho
    cases ho
section
variable {X : Cx} {b : Bx} {cf : CF} {fu : Nat} {e : Expr} {c : E} {pos : Pos}
theorem sf_lst {es : List Expr} {cs : Es} (h : PA X es (rA b (evEs cf cs))) : PE X (.List es pos) (rF b (evE cf (.lst cs))) :=
  (pe_lst h).imp fun σ H Q ⟨m, F, s, w, wf, sl, p⟩ => by
    have p : Post b m F H (bnd (evEs cf cs s) (fun ds => if ds.length ≤ LIM then ret (.list ds) else bad) w) (FreshR b.z H) Q := by simpa only [evE] using p
    refine ⟨m, F, s, w, wf, sl, (p.bind).imp fun vs H1 ⟨m1, F1, ds, w1, f1, wf1, r1, p1⟩ => ?_⟩
    by_cases hl : ds.length ≤ LIM
    · rw [if_pos hl] at p1
      refine ⟨by rw [r1.length, ← lim_eq]; exact hl, fun q hq => p1 m1 F1 _ _ (Fm.laid hq) (wf1.laid hq) ⟨q, rfl, f1.unlaid hq, (wf_new wf1 hq).1, (wf_new wf1 hq).2, .inl ⟨vs, ds, rfl, upd_same, wf1.repAll (Fm.laid hq) r1⟩⟩⟩
    · rw [if_neg hl] at p1
      exact p1.elim
theorem sf_dnew : PE X (.Dict [] [] pos) (rF b (evE cf .dnew)) :=
  pe_dnewK.imp fun σ H Q ⟨m, F, s, w, wf, sl, p⟩ => by
    have p : Post b m F H (R.ok (.dict []) w) (FreshR b.z H) Q := by simp only [evE] at p; exact p
    exact fun q hq => p m F _ _ (Fm.laid hq) (wf.laid hq) ⟨q, rfl, hq, (wf_new wf hq).1, (wf_new wf hq).2, .inr ⟨.dK [], [], rfl, upd_same, .k .nil⟩⟩
/-- a comprehension's list, frozen or new -/
theorem comp_strict {σ : L2.St} {H : Hp} {Q : VK} {own : List (Str × Nat)} {tgc : Tg} {itc : I} {ifc : Ts} {ec : E} (hsl : ∀ j ∈ slotsT tgc, j ∈ own.map (·.2)) (h : rE b (evE cf (.comp ec tgc itc ifc (own.map (·.2)))) σ H Q) :
    tLc (rI b (evI cf itc)) (rG b.no tgc) (rT b.no (evTs cf ifc)) (rE b.no (evE cf ec)) (own.map (·.2)) σ H Q :=
  comp_pre (Rl := Rep b.z) hsl (fun m F Hx w a vs ds m1 F1 H1 _ f h0 wf nF nM ha hr Q p => p m (frzA F a) Hx _ (f.frz0 h0) (wf.frz ha nM) (.lst (.inr rfl) ha (hr.mono (Kp.refl _ _) (fun _ h => .inl h) (fun _ _ h => h)))) (by
    have e : evE cf (.comp ec tgc itc ifc (own.map (·.2))) = fun s => bnd (evI cf itc s) fun ds => bnd (nox (compL (turnC cf ec tgc ifc (wipeA s (own.map (·.2)))) ds)) fun r => ret (.list r) := by
      funext s
      simp only [evE]
      rfl
    rw [← e]
    exact h)
theorem comp_fresh {σ : L2.St} {H : Hp} {Q : VK} {own : List (Str × Nat)} {tgc : Tg} {itc : I} {ifc : Ts} {ec : E} (hsl : ∀ j ∈ slotsT tgc, j ∈ own.map (·.2)) (h : rF b (evE cf (.comp ec tgc itc ifc (own.map (·.2)))) σ H Q) :
    tLc (rI b (evI cf itc)) (rG b.no tgc) (rT b.no (evTs cf ifc)) (rE b.no (evE cf ec)) (own.map (·.2)) σ H Q :=
  comp_pre (Rl := FreshR b.z H) hsl (fun m F Hx w a vs ds m1 F1 H1 hn f h0 wf nF nM ha hr Q p => p m F Hx _ f wf ⟨a, rfl, hn a h0, nF, nM, .inl ⟨vs, ds, rfl, ha, hr⟩⟩) (by
    have e : evE cf (.comp ec tgc itc ifc (own.map (·.2))) = fun s => bnd (evI cf itc s) fun ds => bnd (nox (compL (turnC cf ec tgc ifc (wipeA s (own.map (·.2)))) ds)) fun r => ret (.list r) := by
      funext s
      simp only [evE]
      rfl
    rw [← e]
    exact h)
end

/-! ### owned slots -/
theorem isMut_setM {s : Sl} {i j : Nat} {sv : SV} (h : isMut (s.set i (some sv)) j) (hj : j ≠ i) : isMut s j := by
  rcases h with ⟨xs, e⟩ | ⟨kvs, e⟩
  · rw [List.getElem?_set_ne (Ne.symm hj)] at e
    exact .inl ⟨xs, e⟩
  · rw [List.getElem?_set_ne (Ne.symm hj)] at e
    exact .inr ⟨kvs, e⟩
/-- what a slot owns -/
def OwnR (z : Zt) (m : Mu) (F : Fz) (H : Hp) (a : Addr) : SV → Prop
  | .i _ => False
  | .l xs => ∃ vs, H a = some (.lst vs) ∧ RepAll z m F H vs xs
  | .m kvs => ∃ o, H a = some o ∧ RepD z m F H a o kvs
section
variable {z : Zt} {m : Mu} {F : Fz} {H0 H : Hp} {s : Sl} {σ : L2.St}
theorem SlR.setM (x : SlR z m F H0 s σ H) {i : Nat} {a : Addr} {sv : SV} (hi : i < s.length) (ho : OwnR z m F H a sv) (nF : ¬ F a) (nM : a ∉ m.flatten) (h0 : H0 a = none) (ne : ∀ j, j ≠ i → isMut s j → σ[j]? ≠ some (some (.ref a))) : SlR z m F H0 (s.set i (some sv)) (σ.set i (some (.ref a))) H := by
  have hiσ : i < σ.length := by rw [← x.len]; exact hi
  refine ⟨by rw [List.length_set, List.length_set]; exact x.len, fun j d e => ?_, fun j xs e => ?_, fun j xs e => ?_, fun j c hm hc => ?_, fun j k c h1 h2 e1 e2 => ?_⟩
  · by_cases hj : j = i
    · subst hj
      rw [List.getElem?_set_self hi] at e
      cases e
      exact ho.elim
    · rw [List.getElem?_set_ne (Ne.symm hj)] at e
      obtain ⟨v, e1, r⟩ := x.imm j d e
      exact ⟨v, by rw [List.getElem?_set_ne (Ne.symm hj)]; exact e1, r⟩
  · by_cases hj : j = i
    · subst hj
      rw [List.getElem?_set_self hi] at e
      cases e
      obtain ⟨vs, h1, h2⟩ := ho
      exact ⟨a, vs, by rw [List.getElem?_set_self hiσ], h1, h2⟩
    · rw [List.getElem?_set_ne (Ne.symm hj)] at e
      obtain ⟨c, vs, e1, r⟩ := x.lst j xs e
      exact ⟨c, vs, by rw [List.getElem?_set_ne (Ne.symm hj)]; exact e1, r⟩
  · by_cases hj : j = i
    · subst hj
      rw [List.getElem?_set_self hi] at e
      cases e
      obtain ⟨vs, h1, h2⟩ := ho
      exact ⟨a, vs, by rw [List.getElem?_set_self hiσ], h1, h2⟩
    · rw [List.getElem?_set_ne (Ne.symm hj)] at e
      obtain ⟨c, vs, e1, r⟩ := x.dct j xs e
      exact ⟨c, vs, by rw [List.getElem?_set_ne (Ne.symm hj)]; exact e1, r⟩
  · by_cases hj : j = i
    · subst hj
      rw [List.getElem?_set_self hiσ] at hc
      cases hc
      exact ⟨nF, nM, h0⟩
    · rw [List.getElem?_set_ne (Ne.symm hj)] at hc
      exact x.free j c (isMut_setM hm hj) hc
  · by_cases hj : j = i
    · by_cases hk : k = i
      · rw [hj, hk]
      · exfalso
        subst hj
        rw [List.getElem?_set_self hiσ] at e1
        cases e1
        rw [List.getElem?_set_ne (Ne.symm hk)] at e2
        exact ne k hk (isMut_setM h2 hk) e2
    · by_cases hk : k = i
      · exfalso
        subst hk
        rw [List.getElem?_set_self hiσ] at e2
        cases e2
        rw [List.getElem?_set_ne (Ne.symm hj)] at e1
        exact ne j hj (isMut_setM h1 hj) e1
      · rw [List.getElem?_set_ne (Ne.symm hj)] at e1
        rw [List.getElem?_set_ne (Ne.symm hk)] at e2
        exact x.inj j k c (isMut_setM h1 hj) (isMut_setM h2 hk) e1 e2
/-- an owned slot is left, its object written or locked -/
theorem SlR.leave (x : SlR z m F H0 s σ H) {i : Nat} {a : Addr} {o : HO} (hi : isMut s i) (ha : σ[i]? = some (some (.ref a))) : SlR z m F H0 (s.set i none) σ (upd H a o) := by
  obtain ⟨nF, nM, h0⟩ := x.free i a hi ha
  have hl : i < s.length := by
    rcases hi with ⟨xs, e⟩ | ⟨xs, e⟩
    · exact (List.getElem?_eq_some_iff.mp e).1
    · exact (List.getElem?_eq_some_iff.mp e).1
  have kp : Kp F H (upd H a o) := Kp.updA nF
  have ne : ∀ j, j ≠ i → isMut s j → ∀ c, σ[j]? = some (some (.ref c)) → c ≠ a := fun j hj hm c hc e => by
    subst e
    exact hj (x.inj j i c hm hi hc ha)
  have key : ∀ (j : Nat) (sv : SV), (s.set i none)[j]? = some (some sv) → j ≠ i ∧ s[j]? = some (some sv) := fun j sv e => by
    by_cases hj : j = i
    · subst hj
      rw [List.getElem?_set_self hl] at e
      cases e
    · rw [List.getElem?_set_ne (Ne.symm hj)] at e
      exact ⟨hj, e⟩
  have mt : ∀ j, isMut (s.set i none) j → j ≠ i ∧ isMut s j := fun j h => by
    rcases h with ⟨xs, e⟩ | ⟨kvs, e⟩
    · exact ⟨(key j _ e).1, .inl ⟨xs, (key j _ e).2⟩⟩
    · exact ⟨(key j _ e).1, .inr ⟨kvs, (key j _ e).2⟩⟩
  refine ⟨by rw [List.length_set]; exact x.len, fun j d e => ?_, fun j xs e => ?_, fun j xs e => ?_, fun j c hm hc => x.free j c (mt j hm).2 hc, fun j k c h1 h2 e1 e2 => x.inj j k c (mt j h1).2 (mt k h2).2 e1 e2⟩
  · obtain ⟨hj, e'⟩ := key j _ e
    obtain ⟨v, e1, r⟩ := x.imm j d e'
    exact ⟨v, e1, r.mono kp (fun _ h => h) (fun _ _ h => h)⟩
  · obtain ⟨hj, e'⟩ := key j _ e
    obtain ⟨c, vs, e1, e2, r⟩ := x.lst j xs e'
    exact ⟨c, vs, e1, by rw [upd_ne (ne j hj (.inl ⟨xs, e'⟩) c e1)]; exact e2, r.mono kp (fun _ h => h) (fun _ _ h => h)⟩
  · obtain ⟨hj, e'⟩ := key j _ e
    obtain ⟨c, vs, e1, e2, r⟩ := x.dct j xs e'
    exact ⟨c, vs, e1, by rw [upd_ne (ne j hj (.inr ⟨xs, e'⟩) c e1)]; exact e2, r.mono kp (fun _ h => h) (fun _ _ h => h)⟩
theorem SlR.same {i : Nat} {a : Addr} {v : V} (hl : i < σ.length) (ha : σ[i]? = some (some v)) : σ.set i (some v) = σ := by
  refine List.ext_getElem? fun j => ?_
  by_cases hj : j = i
  · subst hj
    rw [List.getElem?_set_self hl, ha]
  · rw [List.getElem?_set_ne (Ne.symm hj)]
/-- an owned dict is locked and frozen -/
theorem SlR.lockD (x : SlR z m F H0 s σ H) {i : Nat} {a : Addr} {o : HO} {od : Obj} {ds : List (D × D)} (hi : isMut s i) (ha : σ[i]? = some (some (.ref a))) (r : RepD z m F H a o ds) : SlR z m (frzA F a) H0 (s.set i (some (.i (.dict ds)))) σ (upd H a (.frz od o)) := by
  obtain ⟨nF, nM, h0⟩ := x.free i a hi ha
  have hl : i < s.length := by
    rcases hi with ⟨xs, e⟩ | ⟨xs, e⟩
    · exact (List.getElem?_eq_some_iff.mp e).1
    · exact (List.getElem?_eq_some_iff.mp e).1
  have y := x.leave (o := .frz od o) hi ha
  have mt : ∀ j, isMut (s.set i none) j → j ≠ i ∧ isMut s j := fun j h => by
    have hj : j ≠ i := fun e => by
      subst e
      rcases h with ⟨xs, e⟩ | ⟨xs, e⟩
      · rw [List.getElem?_set_self hl] at e; cases e
      · rw [List.getElem?_set_self hl] at e; cases e
    refine ⟨hj, ?_⟩
    rcases h with ⟨xs, e⟩ | ⟨xs, e⟩
    · rw [List.getElem?_set_ne (Ne.symm hj)] at e; exact .inl ⟨xs, e⟩
    · rw [List.getElem?_set_ne (Ne.symm hj)] at e; exact .inr ⟨xs, e⟩
  have g : ∀ b, F b → frzA F a b := fun b h => .inl h
  have y2 : SlR z m (frzA F a) H0 (s.set i none) σ (upd H a (.frz od o)) := ⟨y.len, fun j d e => by
    obtain ⟨v, e1, r⟩ := y.imm j d e
    exact ⟨v, e1, r.mono (Kp.refl _ _) g (fun _ _ h => h)⟩, fun j xs e => by
    obtain ⟨c, vs, e1, e2, r⟩ := y.lst j xs e
    exact ⟨c, vs, e1, e2, r.mono (Kp.refl _ _) g (fun _ _ h => h)⟩, fun j xs e => by
    obtain ⟨c, vs, e1, e2, r⟩ := y.dct j xs e
    exact ⟨c, vs, e1, e2, r.mono (Kp.refl _ _) g (fun _ _ h => h)⟩, fun j c hm hc => by
    obtain ⟨h1, h2, h3⟩ := y.free j c hm hc
    refine ⟨fun q => ?_, h2, h3⟩
    rcases q with q | q
    · exact h1 q
    · subst q
      exact (mt j hm).1 (x.inj j i c (mt j hm).2 hi hc ha), y.inj⟩
  have y3 := y2.setI (i := i) (v := .ref a) (d := .dict ds) (.dK (.inr rfl) upd_same (r.mono (Kp.updA nF) g (fun _ _ h => h))) (by rw [List.length_set]; exact hl)
  rw [List.set_set, SlR.same (a := a) (by rw [← x.len]; exact hl) ha] at y3
  exact y3
/-- the object of an owned slot is written -/
theorem SlR.write (x : SlR z m F H0 s σ H) {i : Nat} {a : Addr} {sv : SV} {o : HO} (hi : isMut s i) (ha : σ[i]? = some (some (.ref a))) (ho : OwnR z m F (upd H a o) a sv) : SlR z m F H0 (s.set i (some sv)) σ (upd H a o) := by
  obtain ⟨nF, nM, h0⟩ := x.free i a hi ha
  have hl : i < s.length := by
    rcases hi with ⟨xs, e⟩ | ⟨xs, e⟩
    · exact (List.getElem?_eq_some_iff.mp e).1
    · exact (List.getElem?_eq_some_iff.mp e).1
  have kp : Kp F H (upd H a o) := Kp.updA nF
  have ne : ∀ j, j ≠ i → isMut s j → ∀ c, σ[j]? = some (some (.ref c)) → c ≠ a := fun j hj hm c hc e => by
    subst e
    exact hj (x.inj j i c hm hi hc ha)
  have y : SlR z m F H0 (s.set i none) σ (upd H a o) := by
    have key : ∀ (j : Nat) (sv : SV), (s.set i none)[j]? = some (some sv) → j ≠ i ∧ s[j]? = some (some sv) := fun j sv e => by
      by_cases hj : j = i
      · subst hj
        rw [List.getElem?_set_self hl] at e
        cases e
      · rw [List.getElem?_set_ne (Ne.symm hj)] at e
        exact ⟨hj, e⟩
    have mt : ∀ j, isMut (s.set i none) j → j ≠ i ∧ isMut s j := fun j h => by
      rcases h with ⟨xs, e⟩ | ⟨kvs, e⟩
      · exact ⟨(key j _ e).1, .inl ⟨xs, (key j _ e).2⟩⟩
      · exact ⟨(key j _ e).1, .inr ⟨kvs, (key j _ e).2⟩⟩
    refine ⟨by rw [List.length_set]; exact x.len, fun j d e => ?_, fun j xs e => ?_, fun j xs e => ?_, fun j c hm hc => x.free j c (mt j hm).2 hc, fun j k c h1 h2 e1 e2 => x.inj j k c (mt j h1).2 (mt k h2).2 e1 e2⟩
    · obtain ⟨hj, e'⟩ := key j _ e
      obtain ⟨v, e1, r⟩ := x.imm j d e'
      exact ⟨v, e1, r.mono kp (fun _ h => h) (fun _ _ h => h)⟩
    · obtain ⟨hj, e'⟩ := key j _ e
      obtain ⟨c, vs, e1, e2, r⟩ := x.lst j xs e'
      exact ⟨c, vs, e1, by rw [upd_ne (ne j hj (.inl ⟨xs, e'⟩) c e1)]; exact e2, r.mono kp (fun _ h => h) (fun _ _ h => h)⟩
    · obtain ⟨hj, e'⟩ := key j _ e
      obtain ⟨c, vs, e1, e2, r⟩ := x.dct j xs e'
      exact ⟨c, vs, e1, by rw [upd_ne (ne j hj (.inr ⟨xs, e'⟩) c e1)]; exact e2, r.mono kp (fun _ h => h) (fun _ _ h => h)⟩
  have z1 := y.setM (i := i) (sv := sv) (by rw [List.length_set]; exact hl) ho nF nM h0 fun j hj hm hc => by
    rcases hm with ⟨xs, e⟩ | ⟨xs, e⟩
    · rw [List.getElem?_set_ne (Ne.symm hj)] at e
      exact ne j hj (.inl ⟨xs, e⟩) a hc rfl
    · rw [List.getElem?_set_ne (Ne.symm hj)] at e
      exact ne j hj (.inr ⟨xs, e⟩) a hc rfl
  rw [List.set_set] at z1
  have eσ : σ.set i (some (.ref a)) = σ := by
    refine List.ext_getElem? fun j => ?_
    by_cases hj : j = i
    · subst hj
      rw [List.getElem?_set_self (by rw [← x.len]; exact hl), ha]
    · rw [List.getElem?_set_ne (Ne.symm hj)]
  rw [eσ] at z1
  exact z1
/-- an owned slot is frozen -/
theorem SlR.freeze (x : SlR z m F H0 s σ H) {i : Nat} {a : Addr} {d : D} (hi : isMut s i) (ha : σ[i]? = some (some (.ref a))) (r : Rep z m (frzA F a) H (.ref a) d) : SlR z m (frzA F a) H0 (s.set i (some (.i d))) σ H := by
  have hl : i < s.length := by
    rcases hi with ⟨xs, e⟩ | ⟨xs, e⟩
    · exact (List.getElem?_eq_some_iff.mp e).1
    · exact (List.getElem?_eq_some_iff.mp e).1
  refine ⟨by rw [List.length_set]; exact x.len, fun j d' e => ?_, fun j xs e => ?_, fun j xs e => ?_, fun j c hm hc => ?_, fun j k c h1 h2 e1 e2 => x.inj j k c (isMut_set h1).2 (isMut_set h2).2 e1 e2⟩
  · by_cases hj : j = i
    · subst hj
      rw [List.getElem?_set_self hl] at e
      cases e
      exact ⟨_, ha, r⟩
    · rw [List.getElem?_set_ne (Ne.symm hj)] at e
      obtain ⟨v, e1, r1⟩ := x.imm j d' e
      exact ⟨v, e1, r1.mono (Kp.refl _ _) (fun _ h => .inl h) (fun _ _ h => h)⟩
  · obtain ⟨hj, _⟩ := isMut_set (.inl ⟨xs, e⟩)
    rw [List.getElem?_set_ne (Ne.symm hj)] at e
    obtain ⟨c, vs, e1, e2, r1⟩ := x.lst j xs e
    exact ⟨c, vs, e1, e2, r1.mono (Kp.refl _ _) (fun _ h => .inl h) (fun _ _ h => h)⟩
  · obtain ⟨hj, _⟩ := isMut_set (.inr ⟨xs, e⟩)
    rw [List.getElem?_set_ne (Ne.symm hj)] at e
    obtain ⟨c, vs, e1, e2, r1⟩ := x.dct j xs e
    exact ⟨c, vs, e1, e2, r1.mono (Kp.refl _ _) (fun _ h => .inl h) (fun _ _ h => h)⟩
  · obtain ⟨hj, hm'⟩ := isMut_set hm
    obtain ⟨h1, h2, h3⟩ := x.free j c hm' hc
    refine ⟨fun q => ?_, h2, h3⟩
    rcases q with q | q
    · exact h1 q
    · subst q
      exact hj (x.inj j i c hm' hi hc ha)
end
end Ev

set_option Elab.async false
set_option linter.all false
set_option maxRecDepth 100000
set_option autoImplicit false
/-! EvS11: statements, one by one. -/
namespace Ev
open PySem PySem.Spec PyProof.Rows L2
def notComp : Expr → Bool
  | .ListComp .. => false
  | .SetComp .. => false
  | .DictComp .. => false
  | _ => true
theorem swaps_no {e : Expr} {t : Option Expr} {l : Nat} {env : Env} (h : notComp e = true) : swapsWith e t l env = pure false := by
  cases e <;> first | rfl | (exact absurd h (by simp [notComp]))
def notTup : Expr → Bool
  | .Tuple .. => false
  | .List .. => false
  | _ => true
theorem stores_no {tg e : Expr} {env : Env} (h : notTup tg = true ∨ notTup e = true) : swappedStores [tg] e env = pure none := by
  rcases h with h | h
  · cases tg <;> first | rfl | (exact absurd h (by simp [notTup]))
  · cases tg <;> first | rfl | (cases e <;> first | rfl | (exact absurd h (by simp [notTup])))
theorem asg_one {tg : Expr} {env : Env} (h : notStar tg = true) : (assignEach [tg] env).map (·.2) = [assign tg env] := by rw [asg_cons h]; rfl
section
variable {X : Cx} {b : Bx} {cf : CF} {fu : Nat} {e tg : Expr} {c : E} {t : Tg} {pos : Pos}
theorem ss_expr (he : PE X e (rE b (evE cf c))) (hn : notComp e = true) : PS X (.Expr e pos) (rS b (evS cf fu (.expr c))) :=
  (ps_expr he (swaps_no hn)).imp fun D σ H ⟨m, F, s, w, rel, p⟩ => by
    have p : PostS b m F H (bnd (evE cf c s) (fun _ => ret (.nx s)) w) D := by simpa only [evS] using p
    refine ⟨m, F, s, w, rel.wf, rel.sl, (p.bind rel.fm rel.wf).imp fun v H1 ⟨m1, F1, d, w1, f1, wf1, r1, p1⟩ => ?_⟩
    exact p1 m1 F1 H1 σ (Fk.refl _ _ _) (rel.step f1 wf1)
theorem set_pre {D : Ends} {σ : L2.St} {H : Hp} (h : rS b (evS cf fu (.set t c)) D σ H) : tAsg (rE b (evE cf c)) (rG b t) D σ H := by
  obtain ⟨m, F, s, w, rel, p⟩ := h
  have p : PostS b m F H (bnd (evE cf c s) (fun x => bnd (lift (bindT t x s)) fun s' => ret (.nx s')) w) D := by simpa only [evS] using p
  refine ⟨m, F, s, w, rel.wf, rel.sl, (p.bind rel.fm rel.wf).imp fun v H1 ⟨m1, F1, d, w1, f1, wf1, r1, p1⟩ => ?_⟩
  obtain ⟨s', e1, p2⟩ := p1.lift
  have rel1 := rel.step f1 wf1
  exact ⟨m1, F1, s, w1, d, s', wf1, rel1.sl, r1, e1, fun σ' sr _ _ => p2 m1 F1 H1 σ' (Fk.refl _ _ _) ⟨wf1, sr, rel1.fm⟩⟩
theorem ss_set (he : PE X e (rE b (evE cf c))) (hg : PG X tg (rG b t)) (hs : swapsWithSole [tg] e pos.line X.env = pure false) (hw : swappedStores [tg] e X.env = pure none) (h1 : notStar tg = true) : PS X (.Assign [tg] e pos) (rS b (evS cf fu (.set t c))) :=
  (ps_asg he hg hs hw (asg_one h1)).imp fun D σ H h => set_pre h
/-- name = [..] on one line -/
theorem set_name {D : Ends} {σ : L2.St} {H : Hp} {i : Nat} (h : rS b (evS cf fu (.set (.name i) c)) D σ H) : rE b (evE cf c) σ H fun x H1 => gName i x σ H1 D.nx := by
  obtain ⟨m, F, s, w, rel, p⟩ := h
  have p : PostS b m F H (bnd (evE cf c s) (fun x => bnd (lift (bindT (.name i) x s)) fun s' => ret (.nx s')) w) D := by simpa only [evS] using p
  refine ⟨m, F, s, w, rel.wf, rel.sl, (p.bind rel.fm rel.wf).imp fun v H1 ⟨m1, F1, d, w1, f1, wf1, r1, p1⟩ => ?_⟩
  obtain ⟨s', e1, p2⟩ := p1.lift
  have rel1 := rel.step f1 wf1
  unfold bindT at e1
  split at e1
  · rename_i hi
    cases e1
    exact p2 m1 F1 H1 _ (Fk.refl _ _ _) ⟨wf1, rel1.sl.setI r1 hi, rel1.fm⟩
  · cases e1
theorem setM_pre {D : Ends} {σ : L2.St} {H : Hp} {i : Nat} (h : rS b (evS cf fu (.setM i c)) D σ H) : rF b (evE cf c) σ H fun x H1 => gName i x σ H1 D.nx := by
  obtain ⟨m, F, s, w, rel, p⟩ := h
  have p : PostS b m F H (bnd (evE cf c s) (fun x => bnd (lift (mutS x)) fun v => if i < s.length then ret (.nx (s.set i (some v))) else bad) w) D := by simpa only [evS] using p
  refine ⟨m, F, s, w, rel.wf, rel.sl, (p.bind rel.fm rel.wf).imp fun v H1 ⟨m1, F1, d, w1, f1, wf1, r1, p1⟩ => ?_⟩
  obtain ⟨sv, e1, p2⟩ := p1.lift
  have rel1 := rel.step f1 wf1
  obtain ⟨a, rfl, hn, nF, nM, hc⟩ := r1
  have ne : ∀ j, j ≠ i → isMut s j → σ[j]? ≠ some (some (.ref a)) := fun j _ hm hc => by
    obtain ⟨o, ho⟩ := rel.sl.there hm hc
    rw [hn] at ho; cases ho
  have h0 : b.H0 a = none := rel.fm.unlaid hn
  have ho : OwnR b.z m1 F1 H1 a sv := by
    rcases hc with ⟨vs, ds, rfl, h1, h2⟩ | ⟨ks, kvs, rfl, h1, h2⟩
    · cases e1
      exact ⟨vs, h1, h2⟩
    · cases e1
      exact ⟨ks, h1, h2⟩
  by_cases hi : i < s.length
  · rw [if_pos hi] at p2
    exact p2 m1 F1 H1 _ (Fk.refl _ _ _) ⟨wf1, rel1.sl.setM hi ho nF nM h0 ne, rel1.fm⟩
  · rw [if_neg hi] at p2
    exact p2.elim
theorem ss_setM {i : Nat} {x : Str} {py : Pos} (hN : X.N.Nodup) (hi : X.N[i]? = some x) (hx : Loc X.env.scope x) (hf : X.fn x = true ∨ X.env.scope.names.lookup x = some .local) (he : PE X e (rF b (evE cf c))) (hs : swapsWith e (some (.Name x py)) pos.line X.env = pure false) : PS X (.Assign [.Name x py] e pos) (rS b (evS cf fu (.setM i c))) :=
  (ps_set hN hi hx he hs hf).imp fun D σ H h => setM_pre h
theorem ss_ret (he : PE X e (rE b (evE cf c))) : PS X (.Return (some e) pos) (rS b (evS cf fu (.ret c))) :=
  (ps_ret he).imp fun D σ H ⟨m, F, s, w, rel, p⟩ => by
    have p : PostS b m F H (bnd (evE cf c s) (fun x => ret (.rt x)) w) D := by simpa only [evS] using p
    refine ⟨m, F, s, w, rel.wf, rel.sl, (p.bind rel.fm rel.wf).imp fun v H1 ⟨m1, F1, d, w1, f1, wf1, r1, p1⟩ => ?_⟩
    exact p1 m1 F1 H1 v wf1 (rel.fm.trans f1) r1
theorem ss_pass : PS X (.Pass pos) (rS b (evS cf fu .pass)) := ps_pass.imp fun D σ H ⟨m, F, s, w, rel, p⟩ => by
  have p : PostS b m F H (.ok (.nx s) w) D := by simp only [evS] at p; exact p
  exact p m F H σ (Fk.refl _ _ _) rel
theorem ss_cont : PS X (.Continue pos) (rS b (evS cf fu .cont)) := ps_continue.imp fun D σ H ⟨m, F, s, w, rel, p⟩ => by
  have p : PostS b m F H (.ok (.ct s) w) D := by simp only [evS] at p; exact p
  exact p m F H σ (Fk.refl _ _ _) rel
theorem ss_raise {k : Nat} {C : Addr} (hc : X.calm = true) (tk : Takes X (fun cls d _ H => b.E cls d H)) (he : PMk X e (fun _ H Q => Q (.ref C) none H)) (hC : b.cl k = .ref C) : PS X (.Raise (some e) none pos) (rS b (evS cf fu (.raise k))) :=
  (ps_raise hc tk he).imp fun D σ H ⟨m, F, s, w, rel, p⟩ => by
    have p : PostS b m F H (.exc k w) D := by simp only [evS] at p; exact p
    have := p m F H rel.wf rel.fm
    rw [hC] at this
    exact this
theorem ss_ife {a d : List Stmt} {tc : T} {ba bd : B} (ht : PT X e (rT b (evT cf tc))) (ha : PSs X a (rS b (evB cf fu ba))) (hd : PSs X d (rS b (evB cf fu bd))) : PS X (.If e a d pos) (rS b (evS cf fu (.ife tc ba bd))) :=
  (ps_if ht ha hd).imp fun D σ H ⟨m, F, s, w, rel, p⟩ => by
    have p : PostS b m F H (bnd (evT cf tc s) (fun k => if k then evB cf fu ba s else evB cf fu bd s) w) D := by simpa only [evS] using p
    refine ⟨m, F, s, w, rel.wf, rel.sl, (p.bind rel.fm rel.wf).imp fun k H1 ⟨m1, F1, k', w1, f1, wf1, r1, p1⟩ => ?_⟩
    cases (show k = k' from r1)
    cases k with
    | true => exact iteT ⟨m1, F1, s, w1, rel.step f1 wf1, p1⟩
    | false => exact iteF ⟨m1, F1, s, w1, rel.step f1 wf1, p1⟩

/-! ### x.append(e), x.extend(e), x[k] = v -/
variable {x : Str} {i : Nat} {p1 apos cpos : Pos}
theorem few_one {env : Env} (hs : notStar e = true) : ((backTo cpos (starEach [e] env)).all (fun x => !x.1) && (backToKw cpos (keywordEach [] env)).all (fun x => x.1.isSome)
      && decide ([e].length + ([] : List Keyword).length + (if ([] : List Keyword).isEmpty then 0 else 1) < 30)) = true := by
  rw [star_cons hs]; rfl
theorem getL_some {s : Sl} {xs : List D} (h : getL s i = some xs) : s[i]? = some (some (.l xs)) := by
  unfold getL at h
  split at h
  · rename_i q
    cases h
    exact q
  · cases h
theorem getM_some {s : Sl} {xs : List (D × D)} (h : getM s i = some xs) : s[i]? = some (some (.m xs)) := by
  unfold getM at h
  split at h
  · rename_i q
    cases h
    exact q
  · cases h
theorem lstD_some {d : D} {xs : List D} (h : lstD d = some xs) : d = .list xs := by
  cases d with
  | list ys => cases h; rfl
  | _ => cases h
/-- the object of slot i is written -/
theorem RelS.write {m : Mu} {F : Fz} {s : Sl} {w : W} {σ : L2.St} {H : Hp} (rel : RelS b m F s w σ H) {a : Addr} {sv : SV} {o : HO} (hi : isMut s i) (ha : σ[i]? = some (some (.ref a))) (ho : OwnR b.z m F (upd H a o) a sv) :
    RelS b m F (s.set i (some sv)) w σ (upd H a o) ∧ Fk m F H m F (upd H a o) := by
  obtain ⟨nF, nM, h0⟩ := rel.sl.free i a hi ha
  exact ⟨⟨rel.wf.updA nF nM, rel.sl.write hi ha ho, rel.fm.updNew h0⟩, ⟨Kp.updA nF, fun _ h => h, fun _ _ h => h⟩⟩
theorem ss_app (hN : X.N[i]? = some x) (hv : Vis X.env.scope x) (hd : (x == ("__debug__" : Str)) = false) (hcd : (x == ("__classdict__" : Str)) = false) (he : PE X e (rE b (evE cf c))) (hs : notStar e = true) (hline : (apos.endLine == cpos.line) = true) :
    PS X (.Expr (.Call (.Attribute (.Name x p1) "append" apos) [e] [] cpos) pos) (rS b (evS cf fu (.app i c))) :=
  (ps_expr (pe_bm PySem.F.plainAttrs_list PySem.F.slot_list_append PySem.F.type_list_append mt_append (pe_var hN hv hd hcd) (pa_cons he pa_nil (star_cons hs)) rfl (few_one hs) hline (star_cons hs) rfl) rfl).imp fun D σ H ⟨m, F, s, w, rel, p⟩ => by
    have p : PostS b m F H (bnd (lift (getL s i)) (fun xs => bnd (evE cf c s) fun x => if xs.length < LIM then ret (.nx (s.set i (some (.l (xs ++ [x]))))) else bad) w) D := by simpa only [evS] using p
    obtain ⟨xs, ex, p⟩ := p.lift
    have ex := getL_some ex
    have hm : isMut s i := .inl ⟨xs, ex⟩
    obtain ⟨a, vs, e1, e2, r0⟩ := rel.sl.lst i xs ex
    refine ⟨.ref a, e1, .inl ⟨rfl, vs, .inl (.inl e2)⟩, m, F, s, w, rel.wf, rel.sl, (p.bind rel.fm rel.wf).imp fun v H1 ⟨m1, F1, d, w1, f1, wf1, r1, p1⟩ => ?_⟩
    have rel1 := rel.step f1 wf1
    by_cases hl : xs.length < LIM
    · rw [if_pos hl] at p1
      obtain ⟨a', vs', g1, g2, g3⟩ := rel1.sl.lst i xs ex
      rw [e1] at g1
      cases g1
      refine ⟨a, vs', v, rfl, rfl, g2, by rw [g3.length, ← lim_eq]; exact hl, ?_⟩
      obtain ⟨nF, _, _⟩ := rel1.sl.free i a hm e1
      have ho : OwnR b.z m1 F1 (upd H1 a (.lst (vs' ++ [v]))) a (.l (xs ++ [d])) := ⟨_, upd_same, (g3.append (.cons r1 .nil)).mono (Kp.updA nF) (fun _ h => h) (fun _ _ h => h)⟩
      obtain ⟨rel2, fk⟩ := rel1.write hm e1 ho
      exact p1 m1 F1 _ σ fk rel2
    · rw [if_neg hl] at p1
      exact p1.elim
theorem ss_ext (hN : X.N[i]? = some x) (hv : Vis X.env.scope x) (hd : (x == ("__debug__" : Str)) = false) (hcd : (x == ("__classdict__" : Str)) = false) (he : PE X e (rE b (evE cf c))) (hs : notStar e = true) (hline : (apos.endLine == cpos.line) = true) :
    PS X (.Expr (.Call (.Attribute (.Name x p1) "extend" apos) [e] [] cpos) pos) (rS b (evS cf fu (.ext i c))) :=
  (ps_expr (pe_bm PySem.F.plainAttrs_list PySem.F.slot_list_extend PySem.F.type_list_extend mt_extend (pe_var hN hv hd hcd) (pa_cons he pa_nil (star_cons hs)) rfl (few_one hs) hline (star_cons hs) rfl) rfl).imp fun D σ H ⟨m, F, s, w, rel, p⟩ => by
    have p : PostS b m F H (bnd (lift (getL s i)) (fun xs => bnd (evE cf c s) fun x => bnd (lift (lstD x)) fun ys => if xs.length + ys.length ≤ LIM then ret (.nx (s.set i (some (.l (xs ++ ys))))) else bad) w) D := by simpa only [evS] using p
    obtain ⟨xs, ex, p⟩ := p.lift
    have ex := getL_some ex
    have hm : isMut s i := .inl ⟨xs, ex⟩
    obtain ⟨a, vs, e1, e2, r0⟩ := rel.sl.lst i xs ex
    refine ⟨.ref a, e1, .inl ⟨rfl, vs, .inl (.inl e2)⟩, m, F, s, w, rel.wf, rel.sl, (p.bind rel.fm rel.wf).imp fun v H1 ⟨m1, F1, d, w1, f1, wf1, r1, p1⟩ => ?_⟩
    have rel1 := rel.step f1 wf1
    obtain ⟨ys, ey, p2⟩ := p1.lift
    have ey := lstD_some ey
    subst ey
    by_cases hl : xs.length + ys.length ≤ LIM
    · rw [if_pos hl] at p2
      obtain ⟨a', vs', g1, g2, g3⟩ := rel1.sl.lst i xs ex
      rw [e1] at g1
      cases g1
      obtain ⟨q, us, rfl, k1, k2⟩ := (RepR.list (.inl r1))
      refine ⟨a, q, vs', us, rfl, rfl, g2, k1, by rw [g3.length, k2.length, ← lim_eq]; exact hl, ?_⟩
      obtain ⟨nF, _, _⟩ := rel1.sl.free i a hm e1
      have ho : OwnR b.z m1 F1 (upd H1 a (.lst (vs' ++ us))) a (.l (xs ++ ys)) := ⟨_, upd_same, (g3.append k2).mono (Kp.updA nF) (fun _ h => h) (fun _ _ h => h)⟩
      obtain ⟨rel2, fk⟩ := rel1.write hm e1 ho
      exact p2 m1 F1 _ σ fk rel2
    · rw [if_neg hl] at p2
      exact p2.elim
/-- the store into a dict is done: what it asks of the model itself -/
def PutOk (X : Cx) (H : Hp) (a : Addr) (y v : V) (R : Hp → Prop) : Prop := ∀ (pins : List (Addr × Obj)) (s : Shared) (σ : L2.St) (u r : Value) (Q : Unit → Shared → Prop), Inv X pins σ H s → RelV y u → RelV v r → (∀ H' s', Inv X pins σ H' s' → R H' → Q () s') → wpAny (model X.prog X.w) X.A (setItem (.ref a) u r) Q X.xe s
def sPutX (X : Cx) (td ty tv : TE) : TS := fun D σ H => tv σ H fun v H1 => td σ H1 fun x H2 => ty σ H2 fun y H3 => ∃ a, x = .ref a ∧ PutOk X H3 a y v fun H4 => D.nx σ H4
theorem ps_putX {o k v : Expr} {td ty tv : TE} {pos' : Pos} (ho : PE X o td) (hi : PE X k ty) (hv : PE X v tv) (hs : swapsWith v (some (.Subscript o k pos')) pos.line X.env = pure false) : PS X (.Assign [.Subscript o k pos'] v pos) (sPutX X td ty tv) := by
  refine ⟨fun pins s σ H D I h => ?_⟩
  refine wpAny_Assign_Subscript (thn (hv.run pins s σ H _ I h) fun r s1 ⟨v, H1, I1, rv, q1⟩ => thn (ho.run pins s1 σ H1 _ I1 q1) fun u s2 ⟨x, H2, I2, rx, q2⟩ => thn (hi.run pins s2 σ H2 _ I2 q2) fun iv s3 ⟨y, H3, I3, ry, a, ex, g⟩ => ?_) hs
  subst ex
  obtain rfl : u = Value.ref a := rx
  exact g pins s3 σ iv r _ I3 ry rv fun H4 s4 I4 q => ⟨σ, H4, I4, q⟩
theorem ss_dput {k v : Expr} {ck cv : E} {pos' : Pos} (hu : X.A.units + 10 < cLine) (hw : b.z.wd = X.w) (hN : X.N[i]? = some x) (hv : Vis X.env.scope x) (hd : (x == ("__debug__" : Str)) = false) (hcd : (x == ("__classdict__" : Str)) = false) (hk : PE X k (rE b (evE cf ck))) (hvl : PE X v (rE b (evE cf cv))) (hn : notComp v = true) :
    PS X (.Assign [.Subscript (.Name x p1) k pos'] v pos) (rS b (evS cf fu (.dput i ck cv))) :=
  (ps_putX (pe_var hN hv hd hcd) hk hvl (swaps_no hn)).imp fun D σ H ⟨m, F, s, w, rel, p⟩ => by
    have p : PostS b m F H (bnd (evE cf cv s) (fun x => bnd (lift (getM s i)) fun kvs => bnd (evE cf ck s) fun y => if kyOk y kvs && decide (kvs.length < LIM) then ret (.nx (s.set i (some (.m (putD y x kvs))))) else bad) w) D := by simpa only [evS] using p
    refine ⟨m, F, s, w, rel.wf, rel.sl, (p.bind rel.fm rel.wf).imp fun vv H1 ⟨m1, F1, dv, w1, f1, wf1, r1, p1⟩ => ?_⟩
    have rel1 := rel.step f1 wf1
    obtain ⟨kvs, ex, p2⟩ := p1.lift
    have ex := getM_some ex
    have hm : isMut s i := .inr ⟨kvs, ex⟩
    obtain ⟨a, ks, e1, e2, r0⟩ := rel1.sl.dct i kvs ex
    refine ⟨.ref a, e1, m1, F1, s, w1, rel1.wf, rel1.sl, (p2.bind rel1.fm rel1.wf).imp fun yv H2 ⟨m2, F2, dk, w2, f2, wf2, r2, p3⟩ => ?_⟩
    have rel2 := rel1.step f2 wf2
    by_cases hc : (kyOk dk kvs && decide (kvs.length < LIM)) = true
    · rw [if_pos hc] at p3
      simp only [kyOk, Bool.and_eq_true, Bool.or_eq_true, decide_eq_true_eq] at hc
      obtain ⟨hc, h3⟩ := hc
      obtain ⟨a', o', g1, g2, g3⟩ := rel2.sl.dct i kvs ex
      rw [e1] at g1
      cases g1
      obtain ⟨nF, _, _⟩ := rel2.sl.free i a hm e1
      refine ⟨a, rfl, fun pins s0 σ0 u r Q I ry rv q => ?_⟩
      rcases hc with ⟨h1, h2⟩ | ⟨h1, h2⟩
      · obtain ⟨kk, rfl⟩ := keyOk_key h1
        have ek := RepR.key (.inl r2)
        subst ek
        obtain ⟨ks', eo, g4⟩ := g3.keyed h2
        subst eo
        refine d_setItem (by omega) I (DPut.k g2 (by rw [g4.length, ← lim_eq]; exact h3)) ry rv fun s4 I4 => q _ _ I4 ?_
        have ho : OwnR b.z m2 F2 (upd H2 a (.dK (putK ks' kk vv))) a (.m (putD (keyD kk) dv kvs)) := ⟨_, upd_same, .k ((g4.put kk (wf1.rep f2 r1)).mono (Kp.updA nF) (fun _ h => h) (fun _ _ h => h))⟩
        obtain ⟨rel3, fk⟩ := rel2.write hm e1 ho
        exact p3 m2 F2 _ σ fk rel3
      · refine n_put hu hw I ry rv g2 g3 nF r2 (wf1.rep f2 r1) h1 h2 (by rw [← lim_eq]; exact h3) fun o4 s4 I4 r4 => q _ _ I4 ?_
        obtain ⟨rel3, fk⟩ := rel2.write hm e1 (o := o4) (sv := .m (putD dk dv kvs)) ⟨o4, upd_same, r4⟩
        exact p3 m2 F2 _ σ fk rel3
    · rw [if_neg hc] at p3
      exact p3.elim
/-- x.pop(k, None) as a statement -/
def tPopX (X : Cx) (td ty : TE) : TE := fun σ H Q => td σ H fun x H1 => ∃ a, x = .ref a ∧ (∀ (pins : List (Addr × Obj)) (s : Shared) (σ : L2.St), Inv X pins σ H1 s → s.TypeIs (.ref a) "dict" ∧ ∀ b, Value.ref a = .ref b → ∃ ob, s.heap.get? b = some ob ∧ ob.dict = none) ∧ ty σ H1 fun y H2 =>
  ∀ (pins : List (Addr × Obj)) (s : Shared) (σ : L2.St) (u : Value) (Q' : Value → Shared → Prop), Inv X pins σ H2 s → RelV y u → (∀ v' w' H' s', Inv X pins σ H' s' → RelV v' w' → Q v' H' → Q' w' s') → wpAny (model X.prog X.w) X.A (call (.builtin "dict.pop") [.ref a, u, .none]) Q' X.xe s
theorem pe_popX {o k : Expr} {td ty : TE} {j : Nat} {apos cpos p2 : Pos} (ho : PE X o td) (he : PE X k ty) (m : M2 X o "pop" apos k (.Constant .none j p2) cpos) : PE X (.Call (.Attribute o "pop" apos) [k, .Constant .none j p2] [] cpos) (tPopX X td ty) := by
  refine ⟨fun pins s σ H Q I h => ?_⟩
  refine wpAny_Call_method m.base m.few m.line PySem.F.plainAttrs_dict PySem.F.slot_dict_pop PySem.F.type_dict_pop (thn (ho.run pins s σ H _ I h) fun u s1 ⟨x, H1, I1, rx, a, ex, d, q1⟩ => ?_)
  subst ex
  obtain rfl : u = Value.ref a := rx
  obtain ⟨t1, t2⟩ := d pins s1 σ I1
  refine ⟨t1, t2, ?_⟩
  rw [m.trees]
  refine Calls.callWith_builtin rfl (Calls.evalArgs_plain (Calls.spliced_cons (thn (he.run pins s1 σ H1 _ I1 q1) fun iv s2 ⟨y, H2, I2, ry, q2⟩ => Calls.spliced_cons (thn ((pe_non (X := X) (pos := p2) (j := j)).run pins s2 σ H2 (fun v H3 => v = .non ∧ H3 = H2) I2 ⟨rfl, rfl⟩) fun fv s3 ⟨zv, H3, I3, rz, ez, eH⟩ => Calls.spliced_nil ?_))))
  subst ez
  rw [eH] at I3
  obtain rfl : fv = Value.none := rz
  exact q2 pins s3 σ iv _ I3 ry fun v' w' H' s' I' r' q => ⟨v', H', I', r', q⟩
theorem dict_at {z : Zt} {m : Mu} {F : Fz} {H : Hp} {a : Addr} {o : HO} {ds : List (D × D)} {pins : List (Addr × Obj)} {s : Shared} {σ : L2.St} (hw : z.wd = X.w) (hc : Rd H a o) (hx : RepD z m F H a o ds) (I : Inv X pins σ H s) : s.TypeIs (.ref a) "dict" ∧ ∀ b, Value.ref a = .ref b → ∃ ob, s.heap.get? b = some ob ∧ ob.dict = none := by
  cases hx with
  | k r =>
    obtain ⟨t1, t2, _⟩ := isD_at I (.inl ⟨_, hc⟩)
    exact ⟨t1, t2⟩
  | n r hn =>
    obtain ⟨xs, dv⟩ := dn_view I.hok hw hc r
    refine ⟨dv.dd.typeIs, fun b e => ?_⟩
    cases e
    obtain ⟨ob, _, _, h1, h2, _⟩ := dv.dd
    exact ⟨ob, h1, h2.2.1⟩
theorem ss_dpop {k : Expr} {ck : E} {j : Nat} {p2 : Pos} (hu : X.A.units + 10 < cLine) (hw : b.z.wd = X.w) (hN : X.N[i]? = some x) (hv : Vis X.env.scope x) (hd : (x == ("__debug__" : Str)) = false) (hcd : (x == ("__classdict__" : Str)) = false) (hk : PE X k (rE b (evE cf ck))) (m : M2 X (.Name x p1) "pop" apos k (.Constant .none j p2) cpos) :
    PS X (.Expr (.Call (.Attribute (.Name x p1) "pop" apos) [k, .Constant .none j p2] [] cpos) pos) (rS b (evS cf fu (.dpop i ck))) :=
  (ps_expr (pe_popX (pe_var hN hv hd hcd) hk m) rfl).imp fun D σ H ⟨m, F, s, w, rel, p⟩ => by
    have p : PostS b m F H (bnd (lift (getM s i)) (fun kvs => bnd (evE cf ck s) fun y => if tkOk y && kvs.all (fun p => tkOk p.1) then ret (.nx (s.set i (some (.m (dropD y kvs))))) else bad) w) D := by simpa only [evS] using p
    obtain ⟨kvs, ex, p⟩ := p.lift
    have ex := getM_some ex
    have hm : isMut s i := .inr ⟨kvs, ex⟩
    obtain ⟨a, ks, e1, e2, r0⟩ := rel.sl.dct i kvs ex
    refine ⟨.ref a, e1, a, rfl, fun pins s0 σ0 I => dict_at hw (.inl e2) r0 I, m, F, s, w, rel.wf, rel.sl, (p.bind rel.fm rel.wf).imp fun yv H2 ⟨m2, F2, dk, w2, f2, wf2, r2, p3⟩ => ?_⟩
    have rel2 := rel.step f2 wf2
    by_cases hc : (tkOk dk && kvs.all (fun p => tkOk p.1)) = true
    · rw [if_pos hc] at p3
      simp only [Bool.and_eq_true] at hc
      obtain ⟨a', o', g1, g2, g3⟩ := rel2.sl.dct i kvs ex
      rw [e1] at g1
      cases g1
      obtain ⟨nF, _, _⟩ := rel2.sl.free i a hm e1
      refine fun pins s0 σ0 u Q' I ry q => n_pop hu hw I (t := .non) ry rfl g2 g3 nF r2 hc.1 hc.2 fun o4 v' w' s4 I4 rv r4 => q v' w' _ _ I4 rv ?_
      obtain ⟨rel3, fk⟩ := rel2.write hm e1 (o := o4) (sv := .m (dropD dk kvs)) ⟨o4, upd_same, r4⟩
      exact p3 m2 F2 _ σ fk rel3
    · rw [if_neg hc] at p3
      exact p3.elim

/-! ### blocks -/
theorem sb_nil : PSs X [] (rS b (evB cf fu .nil)) := pss_nil.imp fun D σ H ⟨m, F, s, w, rel, p⟩ => by
  have p : PostS b m F H (.ok (.nx s) w) D := by simp only [evB] at p; exact p
  exact p m F H σ (Fk.refl _ _ _) rel
theorem sb_cons {st : Stmt} {sts : List Stmt} {a : S} {r : B} (h1 : PS X st (rS b (evS cf fu a))) (h2 : PSs X sts (rS b (evB cf fu r))) : PSs X (st :: sts) (rS b (evB cf fu (.cons a r))) :=
  (pss_cons h1 h2).imp fun D σ H ⟨m, F, s, w, rel, p⟩ => by
    refine ⟨m, F, s, w, rel, ?_⟩
    have p : PostS b m F H (bnd (evS cf fu a s) (fun o => match o with
      | .nx s' => evB cf fu r s'
      | .ct s' => ret (.ct s')
      | .rt v => ret (.rt v)) w) D := by simp only [evB] at p; exact p
    cases e1 : evS cf fu a s w with
    | ok o w1 =>
      rw [bnd_ok e1] at p
      cases o with
      | nx s' => exact fun m' F' H' σ' fk rel' => ⟨m', F', s', w1, rel', PostS.after p fk⟩
      | ct s' => exact p
      | rt v => exact p
    | exc k w1 =>
      rw [bnd_exc e1] at p
      exact p
    | bad =>
      rw [bnd_bad e1] at p
      exact p
theorem sb_frz {sts : List Stmt} {r : B} (h : PSs X sts (rS b (evB cf fu r))) : PSs X sts (rS b (evB cf fu (.frz i r))) := by
  refine ⟨fun pins s0 σ H D I ⟨m, F, s, w, rel, p⟩ => ?_⟩
  have p : PostS b m F H (bnd (lift (frzS s i)) (fun s' => evB cf fu r s') w) D := by simp only [evB] at p; exact p
  obtain ⟨s', e, p⟩ := p.lift
  unfold frzS at e
  split at e
  · rename_i xs q
    cases e
    have hm : isMut s i := .inl ⟨xs, q⟩
    obtain ⟨a, vs, e1, e2, r0⟩ := rel.sl.lst i xs q
    obtain ⟨nF, nM, h0⟩ := rel.sl.free i a hm e1
    have rr : Rep b.z m (frzA F a) H (.ref a) (.list xs) := .lst (.inr rfl) e2 (r0.mono (Kp.refl _ _) (fun _ h => .inl h) (fun _ _ h => h))
    exact h.run pins s0 σ H D I ⟨m, frzA F a, _, w, ⟨rel.wf.frz e2 nM, rel.sl.freeze hm e1 rr, rel.fm.frz0 h0⟩, p.after ⟨Kp.refl _ _, fun _ h => .inl h, fun _ _ h => h⟩⟩
  · rename_i xs q
    cases e
    have hm : isMut s i := .inr ⟨xs, q⟩
    obtain ⟨a, o, e1, e2, r0⟩ := rel.sl.dct i xs q
    obtain ⟨nF, nM, h0⟩ := rel.sl.free i a hm e1
    have mu : Mut (some o) := by cases r0 <;> exact True.intro
    obtain ⟨od, I1⟩ := I.lock e2 mu
    have wf1 : Wf b.z m F w (upd H a (.frz od o)) := rel.wf.updA nF nM
    have wf2 : Wf b.z m (frzA F a) w (upd H a (.frz od o)) := wf1.frz upd_same nM
    have fm2 : Fm b.m0 b.F0 b.H0 m (frzA F a) (upd H a (.frz od o)) := (rel.fm.updNew h0).frz0 h0
    exact h.run pins s0 σ _ D I1 ⟨m, frzA F a, _, w, ⟨wf2, rel.sl.lockD hm e1 r0, fm2⟩, p.after ⟨Kp.updA nF, fun _ h => .inl h, fun _ _ h => h⟩⟩
  · cases e
    exact h.run pins s0 σ H D I ⟨m, F, s, w, rel, p⟩

/-! ### loops -/
def notSet : Expr → Bool
  | .Set .. => false
  | _ => true
theorem folded_no {e : Expr} {env : Env} (h : notSet e = true) : ∀ x, foldedSetIterable e env x = pure x := by
  intro x
  cases e <;> first | rfl | (exact absurd h (by simp [notSet]))
theorem ss_for {iter : Expr} {body : List Stmt} {itc : I} {bc : B} (hp : PassesOwn (model X.prog X.w) X.A X.env X.xe) (hc : X.calm = true) (hi : PI X tg iter (rI b (evI cf itc))) (hg : PG X tg (rG b t)) (hb : PSs X body (rS b (evB cf fu bc))) (hns : notSet iter = true) : PS X (.For tg iter body [] pos) (rS b (evS cf fu (.for_ t itc bc))) :=
  (ps_for hp hc hi hg hb (folded_no hns)).imp fun D σ H ⟨m, F, s, w, rel, p⟩ => by
    have p : PostS b m F H (bnd (evI cf itc s) (fun ds => forL (fun d s => bnd (lift (bindT t d s)) fun s' => evB cf fu bc s') ds s) w) D := by simpa only [evS] using p
    refine ⟨m, F, s, w, rel.wf, rel.sl, (p.bind rel.fm rel.wf).imp fun J H1 ⟨m1, F1, ds, w1, f1, wf1, goes, p1⟩ => ?_⟩
    have rel1 := rel.step f1 wf1
    generalize hf : (fun d s => bnd (lift (bindT t d s)) fun s' => evB cf fu bc s' : PyData → Sl → M Fl) = f at p1
    obtain ⟨_, goes⟩ := goes
    refine ⟨fun i k σ Hc => k + i = ds.length ∧ ∃ m2 F2 s2 w2, Fk m1 F1 H1 m2 F2 Hc ∧ RelS b m2 F2 s2 w2 σ Hc ∧ PostS b m1 F1 H1 (forL f (ds.drop i) s2 w2) D,
      ⟨ds.length, rfl, m1, F1, s, w1, Fk.refl _ _ _, rel1, by rw [List.drop_zero]; exact p1⟩, ?_⟩
    rintro i k σ2 Hc ⟨hk, m2, F2, s2, w2, fk2, rel2, p2⟩
    obtain ⟨stop, go⟩ := goes m2 F2 Hc w2 fk2 rel2.wf
    by_cases hi : i < ds.length
    · refine .inr ?_
      have ed : ds[i]? = some ds[i] := List.getElem?_eq_getElem hi
      rw [List.drop_eq_getElem_cons hi] at p2
      generalize hd : ds[i] = d at ed p2
      obtain ⟨g1, g2⟩ := go i d ed
      refine ⟨g1, fun σ' H' => ds.length - (i + 1) + (i + 1) = ds.length ∧ ∃ m2 F2 s2 w2, Fk m1 F1 H1 m2 F2 H' ∧ RelS b m2 F2 s2 w2 σ' H' ∧ PostS b m1 F1 H1 (forL f (ds.drop (i + 1)) s2 w2) D, fun σ' H' h => ⟨ds.length - (i + 1), by omega, h⟩, fun x H3 hy => ?_⟩
      obtain ⟨F3, f3, wf3, r3⟩ := g2 x H3 hy
      have rel3 := rel2.step f3 wf3
      have fk3 := fk2.trans (rel2.wf.fk f3)
      have p2 : PostS b m1 F1 H1 (bnd (f d s2) (fun r => match r with
        | .nx s' => forL f (ds.drop (i + 1)) s'
        | .ct s' => forL f (ds.drop (i + 1)) s'
        | .rt v => ret (.rt v)) w2) D := p2
      have key : ∃ s3, bindT t d s2 = some s3 := by
        cases q : bindT t d s2 with
        | some s3 => exact ⟨s3, rfl⟩
        | none =>
          have : f d s2 w2 = .bad := by
            rw [← hf]
            show bnd (lift (bindT t d s2)) _ w2 = _
            rw [q]
            rfl
          rw [bnd_bad this] at p2
          exact p2.elim
      obtain ⟨s3, e3⟩ := key
      have ef : f d s2 = evB cf fu bc s3 := by
        rw [← hf]
        show bnd (lift (bindT t d s2)) _ = _
        rw [e3]
        rfl
      rw [ef] at p2
      refine ⟨m2, F3, s2, w2, d, s3, wf3, rel3.sl, r3, e3, fun σ3 sr3 _ _ => ?_⟩
      refine ⟨m2, F3, s3, w2, ⟨wf3, sr3, rel3.fm⟩, ?_⟩
      cases e4 : evB cf fu bc s3 w2 with
      | ok o w4 =>
        rw [bnd_ok e4] at p2
        cases o with
        | nx s4 => exact fun m' F' H' σ' fk rel' => ⟨by omega, m', F', s4, w4, fk3.trans fk, rel', p2⟩
        | ct s4 => exact fun m' F' H' σ' fk rel' => ⟨by omega, m', F', s4, w4, fk3.trans fk, rel', p2⟩
        | rt v => exact p2
      | exc q w4 =>
        rw [bnd_exc e4] at p2
        exact p2
      | bad =>
        rw [bnd_bad e4] at p2
        exact p2
    · refine .inl ?_
      have ei : i = ds.length := by omega
      subst ei
      refine ⟨stop, ?_⟩
      rw [List.drop_length] at p2
      have p2 : PostS b m1 F1 H1 (.ok (.nx s2) w2) D := p2
      exact p2 m2 F2 Hc σ2 fk2 rel2
theorem ss_while {body : List Stmt} {tc : T} {bc : B} (hp : PassesOwn (model X.prog X.w) X.A X.env X.xe) (ht : PT X e (rT b (evT cf tc))) (hb : PSs X body (rS b (evB cf fu bc))) : PS X (.While e body [] pos) (rS b (evS cf fu (.while_ tc bc))) :=
  (ps_while hp ht hb).imp fun D σ H ⟨m, F, s, w, rel, p⟩ => by
    have p : PostS b m F H (whileL (evT cf tc) (evB cf fu bc) fu s w) D := by simpa only [evS] using p
    refine ⟨fun k σ Hc => ∃ m2 F2 s2 w2, Fk m F H m2 F2 Hc ∧ RelS b m2 F2 s2 w2 σ Hc ∧ PostS b m F H (whileL (evT cf tc) (evB cf fu bc) k s2 w2) D, ⟨fu, m, F, s, w, Fk.refl _ _ _, rel, p⟩, ?_⟩
    rintro k σ2 Hc ⟨m2, F2, s2, w2, fk2, rel2, p2⟩
    cases k with
    | zero => exact p2.elim
    | succ k =>
      have p2 : PostS b m F H (bnd (evT cf tc s2) (fun c => if c then (bnd (evB cf fu bc s2) fun r => match r with
        | .nx s' => whileL (evT cf tc) (evB cf fu bc) k s'
        | .ct s' => whileL (evT cf tc) (evB cf fu bc) k s'
        | .rt v => ret (.rt v)) else ret (.nx s2)) w2) D := p2
      cases e3 : evT cf tc s2 w2 with
      | exc q w3 =>
        rw [bnd_exc e3] at p2
        exact ⟨m2, F2, s2, w2, rel2.wf, rel2.sl, by rw [e3]; exact fun m' F' H' g wf' => p2 m' F' H' wf' (rel2.fm.trans g)⟩
      | bad =>
        rw [bnd_bad e3] at p2
        exact p2.elim
      | ok c w3 =>
        rw [bnd_ok e3] at p2
        refine ⟨m2, F2, s2, w2, rel2.wf, rel2.sl, ?_⟩
        rw [e3]
        intro m3 F3 H3 c' f3 wf3 r3
        cases (show c' = c from r3)
        have rel3 := rel2.step f3 wf3
        have fk3 := fk2.trans (rel2.wf.fk f3)
        cases c with
        | false => exact iteF ((show PostS b m F H (.ok (.nx s2) w3) D from p2) m3 F3 H3 σ2 fk3 rel3)
        | true =>
          have p2 : PostS b m F H (bnd (evB cf fu bc s2) (fun r => match r with
            | .nx s' => whileL (evT cf tc) (evB cf fu bc) k s'
            | .ct s' => whileL (evT cf tc) (evB cf fu bc) k s'
            | .rt v => ret (.rt v)) w3) D := p2
          refine iteT ⟨fun σ' H' => ∃ m2 F2 s2 w2, Fk m F H m2 F2 H' ∧ RelS b m2 F2 s2 w2 σ' H' ∧ PostS b m F H (whileL (evT cf tc) (evB cf fu bc) k s2 w2) D, fun σ' H' h => ⟨k, Nat.lt_succ_self k, h⟩, m3, F3, s2, w3, rel3, ?_⟩
          cases e4 : evB cf fu bc s2 w3 with
          | ok o w4 =>
            rw [bnd_ok e4] at p2
            cases o with
            | nx s4 => exact fun m' F' H' σ' fk rel' => ⟨m', F', s4, w4, fk3.trans fk, rel', p2⟩
            | ct s4 => exact fun m' F' H' σ' fk rel' => ⟨m', F', s4, w4, fk3.trans fk, rel', p2⟩
            | rt v => exact p2
          | exc q w4 =>
            rw [bnd_exc e4] at p2
            exact p2
          | bad =>
            rw [bnd_bad e4] at p2
            exact p2
end
end Ev

set_option Elab.async false
set_option linter.all false
set_option maxRecDepth 100000
set_option autoImplicit false
/-! EvS12: the rules over one bundle of facts; the generated derivations use these alone. -/
namespace Ev
open PySem PySem.Spec PyProof.Rows L2
/-- what is static about the defs: names and parameters; the built-ins that no def hides; the constants; the error classes; the calls by name -/
structure Tb where
  fn : List (Str × List Str)
  bl : List Str
  gi : List (Str × Int)
  ex : List Str
  kb : List (Nat × Nat)
def Tb.nm (T : Tb) (j : Nat) : Str := (T.fn.getD j ("", [])).1
def Tb.ps (T : Tb) (j : Nat) : List Str := (T.fn.getD j ("", [])).2
def visB (sc : Scope) (x : Str) : Bool := match sc.names.lookup x with
  | some .local => true
  | some .cell => true
  | some .free => true
  | _ => false
def locB (sc : Scope) (x : Str) : Bool := match sc.names.lookup x with
  | some .local => true
  | some .cell => true
  | _ => false
def lclB (sc : Scope) (x : Str) : Bool := match sc.names.lookup x with
  | some .local => true
  | _ => false
def celB (sc : Scope) (x : Str) : Bool := match sc.names.lookup x with
  | some .cell => true
  | _ => false
def glB (sc : Scope) (x : Str) : Bool := match sc.names.lookup x with
  | some .globalImplicit => true
  | _ => false
def dbB (x : Str) : Bool := !(x == ("__debug__" : Str)) && !(x == ("__classdict__" : Str)) && !(x == ("__name__" : Str))
theorem vis_of {sc : Scope} {x : Str} (h : visB sc x = true) : Vis sc x := by
  unfold visB at h
  split at h
  · rename_i q; exact .inl q
  · rename_i q; exact .inr (.inl q)
  · rename_i q; exact .inr (.inr q)
  · cases h
theorem loc_of {sc : Scope} {x : Str} (h : locB sc x = true) : Loc sc x := by
  unfold locB at h
  split at h
  · rename_i q; exact .inl q
  · rename_i q; exact .inr q
  · cases h
theorem lcl_of {sc : Scope} {x : Str} (h : lclB sc x = true) : sc.names.lookup x = some .local := by
  unfold lclB at h
  split at h
  · rename_i q; exact q
  · cases h
theorem cel_of {sc : Scope} {x : Str} (h : celB sc x = true) : sc.names.lookup x = some .cell := by
  unfold celB at h
  split at h
  · rename_i q; exact q
  · cases h
theorem gl_of {sc : Scope} {x : Str} (h : glB sc x = true) : sc.names.lookup x = some .globalImplicit := by
  unfold glB at h
  split at h
  · rename_i q; exact q
  · cases h
theorem db_of {x : Str} (h : dbB x = true) : (x == ("__debug__" : Str)) = false ∧ (x == ("__classdict__" : Str)) = false ∧ x ≠ "__name__" := by
  unfold dbB at h
  simp only [Bool.and_eq_true, Bool.not_eq_true'] at h
  refine ⟨h.1.1, h.1.2, fun e => ?_⟩
  have := h.2
  rw [e] at this
  simp at this

abbrev exBm : List Value := [.type "ValueError", .type "Exception", .type "BaseException", .type "object"]
abbrev exNew : String := "ValueError.__new__"
/-- an error class of the program -/
structure ExF (K : PySem.W.Frag) (mg : Str → Option Value) (x : Str) (c : Addr) : Prop where
  exc : PySem.W.excIn K c exBm exNew = true
  mg : mg x = some (.ref c)
  kp : PySem.W.keepIn K (.ref c) = true
  sub : PySem.W.subIn K (.ref c) (.type "BaseException") = some true
  ty : PySem.W.typeIn K (.ref c) = some (.type "type")

structure Ok (T : Tb) (fd : Nat → FuncData) (ca : Nat → Addr) (b : Bx) (cf : CF) (k : Nat) (X : Cx) (N : List Str) (sc : Scope) (fv : Str → Bool) : Prop where
  eN : X.N = N
  nd : N.Nodup
  esc : X.env.scope = sc
  kd : sc.kind = .function
  efv : X.fn = fv
  calm : X.calm = true
  room : Room k X.A
  ew : b.z.wd = X.w
  tk : Takes X (fun cls d _ H => b.E cls d H)
  fns : ∀ j, j < T.fn.length → FnOk X.prog X.w X.K X.mg X.base (L2.CX X.prog X.w) k (b.z.fa j) (fd j) (T.ps j) (spF b.z b.cl (cf j) (T.ps j).length)
  mgf : ∀ j, j < T.fn.length → X.mg (T.nm j) = some (.ref (b.z.fa j))
  kp : ∀ j, j < T.fn.length → PySem.W.keepIn X.K (.ref (b.z.fa j)) = true
  bd : ∀ j, j < T.fn.length → Binds X.K (fd j) (T.ps j) []
  kb : ∀ j n, (j, n) ∈ T.kb → KB X.K (fd j) (T.ps j) n
  bl : ∀ x ∈ T.bl, X.mg x = none
  gi : ∀ p ∈ T.gi, ∃ t, X.mg p.1 = some (.int p.2 t)
  ex : ∀ (j : Nat) (x : Str), T.ex[j]? = some x → ExF X.K X.mg x (ca j) ∧ b.cl j = .ref (ca j)

/-- the static conditions -/
def vB (N : List Str) (sc : Scope) (i : Nat) (x : Str) : Bool := decide (N[i]? = some x) && visB sc x && dbB x
def bB (T : Tb) (sc : Scope) (x : Str) : Bool := glB sc x && decide (x ∈ T.bl) && dbB x
def fB (T : Tb) (sc : Scope) (j : Nat) (x : Str) : Bool := decide (j < T.fn.length) && decide (T.nm j = x) && glB sc x && dbB x
def gB (T : Tb) (sc : Scope) (x : Str) (n : Int) : Bool := decide ((x, n) ∈ T.gi) && glB sc x && dbB x
def xB (T : Tb) (sc : Scope) (j : Nat) (x : Str) : Bool := decide (T.ex[j]? = some x) && glB sc x && dbB x
/-- a name that is bound -/
def tB (N : List Str) (sc : Scope) (fv : Str → Bool) (i : Nat) (x : Str) : Bool := decide (N[i]? = some x) && locB sc x && (fv x || lclB sc x)

section
variable {T : Tb} {fd : Nat → FuncData} {ca : Nat → Addr} {b : Bx} {cf : CF} {k fu : Nat} {X : Cx} {N : List Str} {sc : Scope} {fv : Str → Bool}
theorem Ok.blk (O : Ok T fd ca b cf k X N sc fv) (s : Shared) (H : Hp) (scope : Scope) (hk : scope.kind = .function) (C : Addr) (cl : List (Str × Addr)) (fp : List Addr) :
    Ok T fd ca b.no cf k (X.blk s H scope (compEnvC scope cl C X.env) fp) N (relS scope sc) (fun x => scope.names.lookup x == some .cell) where
  eN := O.eN
  nd := O.nd
  esc := by rw [← O.esc]; rfl
  kd := hk
  efv := rfl
  calm := O.calm
  room := O.room
  ew := O.ew
  tk := takes0
  fns := O.fns
  mgf := O.mgf
  kp := O.kp
  bd := O.bd
  kb := O.kb
  bl := O.bl
  gi := O.gi
  ex := O.ex
variable (O : Ok T fd ca b cf k X N sc fv)
include O
theorem Ok.gl {x : Str} (h : glB sc x = true) : Gl X x := by
  have := gl_of h
  rw [← O.esc] at this
  exact this
theorem Ok.un : X.A.units + 200 < cLine := by
  have := O.room.un
  omega
theorem Ok.v {i : Nat} {x : Str} (h : vB N sc i x = true) : X.N[i]? = some x ∧ Vis X.env.scope x ∧ (x == ("__debug__" : Str)) = false ∧ (x == ("__classdict__" : Str)) = false := by
  simp only [vB, Bool.and_eq_true, decide_eq_true_eq] at h
  exact ⟨by rw [O.eN]; exact h.1.1, by rw [O.esc]; exact vis_of h.1.2, (db_of h.2).1, (db_of h.2).2.1⟩
theorem Ok.blt {x : Str} (h : bB T sc x = true) : Gl X x ∧ X.mg x = none ∧ (x == ("__debug__" : Str)) = false ∧ x ≠ "__name__" := by
  simp only [bB, Bool.and_eq_true, decide_eq_true_eq] at h
  exact ⟨O.gl h.1.1, O.bl _ h.1.2, (db_of h.2).1, (db_of h.2).2.2⟩
theorem Ok.f {x : Str} {j : Nat} (h : fB T sc j x = true) : j < T.fn.length ∧ Gl X x ∧ X.mg x = some (.ref (b.z.fa j)) ∧ (x == ("__debug__" : Str)) = false := by
  simp only [fB, Bool.and_eq_true, decide_eq_true_eq] at h
  exact ⟨h.1.1.1, O.gl h.1.2, by rw [← h.1.1.2]; exact O.mgf j h.1.1.1, (db_of h.2).1⟩
theorem Ok.x {x : Str} {j : Nat} (h : xB T sc j x = true) : Gl X x ∧ ExF X.K X.mg x (ca j) ∧ b.cl j = .ref (ca j) ∧ (x == ("__debug__" : Str)) = false := by
  simp only [xB, Bool.and_eq_true, decide_eq_true_eq] at h
  exact ⟨O.gl h.1.2, (O.ex j x h.1.1).1, (O.ex j x h.1.1).2, (db_of h.2).1⟩
theorem Ok.t {x : Str} {i : Nat} (h : tB N sc fv i x = true) : X.N.Nodup ∧ X.N[i]? = some x ∧ Loc X.env.scope x ∧ (X.fn x = true ∨ X.env.scope.names.lookup x = some .local) := by
  simp only [tB, Bool.and_eq_true, decide_eq_true_eq, Bool.or_eq_true] at h
  refine ⟨by rw [O.eN]; exact O.nd, by rw [O.eN]; exact h.1.1, by rw [O.esc]; exact loc_of h.1.2, ?_⟩
  rcases h.2 with q | q
  · exact .inl (by rw [O.efv]; exact q)
  · exact .inr (by rw [O.esc]; exact lcl_of q)
variable {e a c : Expr} {ca' cb' cc' : E} {x : Str} {i : Nat} {pos p1 p2 : Pos}
theorem g_var (h : vB N sc i x = true := by decide +kernel) : PE X (.Name x pos) (rE b (evE cf (.var i))) := se_var (O.v h).1 (O.v h).2.1 (O.v h).2.2.1 (O.v h).2.2.2
theorem g_pk (h : vB N sc i x = true := by decide +kernel) : PE X (.Name x pos) (rR b (evE cf (.pk i))) := se_pk (O.v h).1 (O.v h).2.1 (O.v h).2.2.1 (O.v h).2.2.2
omit O in
theorem g_int {n : Int} {j : Nat} : PE X (.Constant (.int n) j pos) (rE b (evE cf (.int n))) := se_c pe_int (fun s w => by simp only [evE]; rfl) fun _ _ _ => .int n
omit O in
theorem g_none {j : Nat} : PE X (.Constant .none j pos) (rE b (evE cf .none)) := se_c pe_non (fun s w => by simp only [evE]; rfl) fun _ _ _ => .non
omit O in
theorem g_tr {j : Nat} : PE X (.Constant (.bool true) j pos) (rE b (evE cf .tr)) := se_c pe_bl (fun s w => by simp only [evE]; rfl) fun _ _ _ => .bl true
omit O in
theorem g_fa {j : Nat} : PE X (.Constant (.bool false) j pos) (rE b (evE cf .fa)) := se_c pe_bl (fun s w => by simp only [evE]; rfl) fun _ _ _ => .bl false
omit O in
theorem g_str {j : Nat} : PE X (.Constant (.str x) j pos) (rE b (evE cf (.str x))) := se_c pe_str (fun s w => by simp only [evE]; rfl) fun _ _ _ => .str x
theorem g_gint {n : Int} (h : gB T sc x n = true := by decide +kernel) : PE X (.Name x pos) (rE b (evE cf (.gint x n))) := by
  simp only [gB, Bool.and_eq_true, decide_eq_true_eq] at h
  obtain ⟨t, ht⟩ := O.gi _ h.1.1
  exact se_c (pe_glob (v := .int n) (O.gl h.1.2) ht ⟨t, rfl⟩ (db_of h.2).1) (fun s w => by simp only [evE]; rfl) fun _ _ _ => .int n
theorem g_fn {j : Nat} (h : fB T sc j x = true := by decide +kernel) : PE X (.Name x pos) (rE b (evE cf (.fn j))) :=
  se_c (pe_glob (v := .ref (b.z.fa j)) (O.f h).2.1 (O.f h).2.2.1 rfl (O.f h).2.2.2) (fun s w => by simp only [evE]; rfl) fun _ _ _ => .fn j
omit O in
theorem g_add (ha : PE X a (rR b (evE cf ca'))) (hb : PE X c (rR b (evE cf cb'))) : PE X (.BinOp a .Add c pos) (rE b (evE cf (.op .add ca' cb'))) := se_op od_add ha hb
omit O in
theorem g_sub (ha : PE X a (rR b (evE cf ca'))) (hb : PE X c (rR b (evE cf cb'))) : PE X (.BinOp a .Sub c pos) (rE b (evE cf (.op .sub ca' cb'))) := se_op od_sub ha hb
omit O in
theorem g_mul (ha : PE X a (rR b (evE cf ca'))) (hb : PE X c (rR b (evE cf cb'))) : PE X (.BinOp a .Mult c pos) (rE b (evE cf (.op .mul ca' cb'))) := se_op od_mul ha hb
omit O in
theorem g_fdiv (ha : PE X a (rR b (evE cf ca'))) (hb : PE X c (rR b (evE cf cb'))) : PE X (.BinOp a .FloorDiv c pos) (rE b (evE cf (.op .fdiv ca' cb'))) := se_op od_fdiv ha hb
omit O in
theorem g_mod (ha : PE X a (rR b (evE cf ca'))) (hb : PE X c (rR b (evE cf cb'))) : PE X (.BinOp a .Mod c pos) (rE b (evE cf (.op .mod ca' cb'))) := se_op od_mod ha hb
/-! the comparisons -/
theorem Ok.lt : OpR X (compareOp .Lt) (rOp b (opD .lt)) := od_lt (by have := O.un; omega)
theorem Ok.le : OpR X (compareOp .LtE) (rOp b (opD .le)) := od_le
theorem Ok.gt : OpR X (compareOp .Gt) (rOp b (opD .gt)) := od_gt
theorem Ok.ge : OpR X (compareOp .GtE) (rOp b (opD .ge)) := od_ge
theorem Ok.eq : OpR X (compareOp .Eq) (rOp b (opD .eq)) := od_eq (by have := O.un; omega)
theorem Ok.ne : OpR X (compareOp .NotEq) (rOp b (opD .ne)) := od_ne (by have := O.un; omega)
theorem Ok.isin : OpR X (compareOp .In) (rOp b (opD .isin)) := od_in (by have := O.un; omega) O.ew
theorem Ok.notin : OpR X (compareOp .NotIn) (rOp b (opD .notin)) := od_notIn (by have := O.un; omega) O.ew
theorem Ok.isN : OpR X (compareOp .Is) (rOp b (opD .isN)) := od_isN
theorem Ok.notN : OpR X (compareOp .IsNot) (rOp b (opD .notN)) := od_notN
omit O in
theorem g_cmp {op : CmpOp} {o : Op2} (ho : OpR X (compareOp op) (rOp b (opD o))) (ha : PE X a (rR b (evE cf ca'))) (hb : PE X c (rR b (evE cf cb'))) (hm : behindInMarks op c = false := by decide +kernel) : PE X (.Compare a [op] [c] pos) (rE b (evE cf (.op o ca' cb'))) := se_cmp ho ha hb hm
omit O in
theorem q_cmp {op : CmpOp} {o : Op2} (ho : OpR X (compareOp op) (rOp b (opD o))) (ha : PE X a (rR b (evE cf ca'))) (hb : PE X c (rR b (evE cf cb'))) (hm : behindInMarks op c = false := by decide +kernel) : PT X (.Compare a [op] [c] pos) (rT b (evT cf (.cmp o ca' cb'))) := st_cmp ho ha hb hm
omit O in
theorem g_chain {op op' : CmpOp} {o o' : Op2} (ho : OpR X (compareOp op) (rOp b (opD o))) (ho' : OpR X (compareOp op') (rOp b (opD o'))) (ha : PE X a (rR b (evE cf ca'))) (hb : PE X c (rR b (evE cf cb'))) (hc : PE X e (rR b (evE cf cc'))) (hm : lastMarks [op, op'] [c, e] = false := by decide +kernel) :
    PE X (.Compare a [op, op'] [c, e] pos) (rE b (evE cf (.chain o o' ca' cb' cc'))) := se_chain ho ho' ha hb hc hm
omit O in
theorem q_chain {op op' : CmpOp} {o o' : Op2} (ho : OpR X (compareOp op) (rOp b (opD o))) (ho' : OpR X (compareOp op') (rOp b (opD o'))) (ha : PE X a (rR b (evE cf ca'))) (hb : PE X c (rR b (evE cf cb'))) (hc : PE X e (rR b (evE cf cc'))) (hm : lastMarks [op, op'] [c, e] = false := by decide +kernel) :
    PT X (.Compare a [op, op'] [c, e] pos) (rT b (evT cf (.chain o o' ca' cb' cc'))) := st_chain ho ho' ha hb hc hm
theorem g_len (ha : PE X a (rR b (evE cf ca'))) (h : bB T sc "len" = true := by decide +kernel) (hs : notStar a = true := by rfl) : PE X (.Call (.Name "len" p1) [a] [] pos) (rE b (evE cf (.bi .len ca'))) := se_bi (cd_len O.ew) (O.blt h).1 (O.blt h).2.1 rfl ha hs (by decide) (by decide)
theorem g_all (ha : PE X a (rR b (evE cf ca'))) (h : bB T sc "all" = true := by decide +kernel) (hs : notStar a = true := by rfl) : PE X (.Call (.Name "all" p1) [a] [] pos) (rE b (evE cf (.bi .all ca'))) := se_bi (cd_all O.calm) (O.blt h).1 (O.blt h).2.1 rfl ha hs (by decide) (by decide)
theorem g_any (ha : PE X a (rR b (evE cf ca'))) (h : bB T sc "any" = true := by decide +kernel) (hs : notStar a = true := by rfl) : PE X (.Call (.Name "any" p1) [a] [] pos) (rE b (evE cf (.bi .any ca'))) := se_bi (cd_any O.calm) (O.blt h).1 (O.blt h).2.1 rfl ha hs (by decide) (by decide)
theorem g_sorted (ha : PE X a (rR b (evE cf ca'))) (h : bB T sc "sorted" = true := by decide +kernel) (hs : notStar a = true := by rfl) : PE X (.Call (.Name "sorted" p1) [a] [] pos) (rE b (evE cf (.bi .sorted ca'))) := se_bi (cd_sorted O.calm O.ew (by have := O.un; omega)) (O.blt h).1 (O.blt h).2.1 rfl ha hs (by decide) (by decide)
theorem g_sum (ha : PE X a (rR b (evE cf ca'))) (h : bB T sc "sum" = true := by decide +kernel) (hs : notStar a = true := by rfl) : PE X (.Call (.Name "sum" p1) [a] [] pos) (rE b (evE cf (.bi .sum ca'))) := se_bi (cd_sum O.calm) (O.blt h).1 (O.blt h).2.1 rfl ha hs (by decide) (by decide)
theorem g_max (ha : PE X a (rR b (evE cf ca'))) (h : bB T sc "max" = true := by decide +kernel) (hs : notStar a = true := by rfl) : PE X (.Call (.Name "max" p1) [a] [] pos) (rE b (evE cf (.bi .max ca'))) := se_bi (cd_max O.calm (by have := O.un; omega)) (O.blt h).1 (O.blt h).2.1 rfl ha hs (by decide) (by decide)
theorem g_min (ha : PE X a (rR b (evE cf ca'))) (h : bB T sc "min" = true := by decide +kernel) (hs : notStar a = true := by rfl) : PE X (.Call (.Name "min" p1) [a] [] pos) (rE b (evE cf (.bi .min ca'))) := se_bi (cd_min O.calm (by have := O.un; omega)) (O.blt h).1 (O.blt h).2.1 rfl ha hs (by decide) (by decide)
theorem g_abs (ha : PE X a (rR b (evE cf ca'))) (h : bB T sc "abs" = true := by decide +kernel) (hs : notStar a = true := by rfl) : PE X (.Call (.Name "abs" p1) [a] [] pos) (rE b (evE cf (.bi .abs ca'))) := se_bi cd_abs (O.blt h).1 (O.blt h).2.1 rfl ha hs (by decide) (by decide)
theorem g_tuple (ha : PE X a (rR b (evE cf ca'))) (h : bB T sc "tuple" = true := by decide +kernel) (hs : notStar a = true := by rfl) : PE X (.Call (.Name "tuple" p1) [a] [] pos) (rE b (evE cf (.bi .tuple ca'))) := se_bt cd_tuple (O.blt h).1 (O.blt h).2.1 rfl ha hs (by decide) (by decide)
theorem g_list (ha : PE X a (rR b (evE cf ca'))) (h : bB T sc "list" = true := by decide +kernel) (hs : notStar a = true := by rfl) : PE X (.Call (.Name "list" p1) [a] [] pos) (rE b (evE cf (.bi .list ca'))) := se_bt (cd_list O.calm O.ew) (O.blt h).1 (O.blt h).2.1 rfl ha hs (by decide) (by decide)
theorem g_isi {t : Ty} {y : Str} (ha : PE X a (rR b (evE cf ca'))) (hy : bootBuiltins y = some (.type (tyN t))) (h : bB T sc "isinstance" = true := by decide +kernel) (h' : bB T sc y = true := by decide +kernel) (hs : notStar a = true := by rfl) :
    PE X (.Call (.Name "isinstance" p1) [a, .Name y p2] [] pos) (rE b (evE cf (.isi t ca'))) := se_isi (O.blt h).1 (O.blt h).2.1 ha hs (O.blt h').1 (O.blt h').2.1 hy (O.blt h').2.2.2 (O.blt h').2.2.1
theorem g_isint (ha : PE X a (rR b (evE cf ca'))) (h : bB T sc "isinstance" = true := by decide +kernel) (h' : bB T sc "int" = true := by decide +kernel) (hs : notStar a = true := by rfl) : PE X (.Call (.Name "isinstance" p1) [a, .Name "int" p2] [] pos) (rE b (evE cf (.isi .int ca'))) := g_isi O ha rfl h h' hs
theorem g_isbool (ha : PE X a (rR b (evE cf ca'))) (h : bB T sc "isinstance" = true := by decide +kernel) (h' : bB T sc "bool" = true := by decide +kernel) (hs : notStar a = true := by rfl) : PE X (.Call (.Name "isinstance" p1) [a, .Name "bool" p2] [] pos) (rE b (evE cf (.isi .bool ca'))) := g_isi O ha rfl h h' hs
theorem g_istuple (ha : PE X a (rR b (evE cf ca'))) (h : bB T sc "isinstance" = true := by decide +kernel) (h' : bB T sc "tuple" = true := by decide +kernel) (hs : notStar a = true := by rfl) : PE X (.Call (.Name "isinstance" p1) [a, .Name "tuple" p2] [] pos) (rE b (evE cf (.isi .tuple ca'))) := g_isi O ha rfl h h' hs
theorem g_isstr (ha : PE X a (rR b (evE cf ca'))) (h : bB T sc "isinstance" = true := by decide +kernel) (h' : bB T sc "str" = true := by decide +kernel) (hs : notStar a = true := by rfl) : PE X (.Call (.Name "isinstance" p1) [a, .Name "str" p2] [] pos) (rE b (evE cf (.isi .str ca'))) := g_isi O ha rfl h h' hs
theorem g_min2 (ha : PE X a (rR b (evE cf ca'))) (hb : PE X c (rR b (evE cf cb'))) (h : bB T sc "min" = true := by decide +kernel) (hs : notStar a = true := by rfl) (hs2 : notStar c = true := by rfl) : PE X (.Call (.Name "min" p1) [a, c] [] pos) (rE b (evE cf (.min2 ca' cb'))) := se_min2 O.calm (O.blt h).1 (O.blt h).2.1 ha hb hs hs2
theorem g_max2 (ha : PE X a (rR b (evE cf ca'))) (hb : PE X c (rR b (evE cf cb'))) (h : bB T sc "max" = true := by decide +kernel) (hs : notStar a = true := by rfl) (hs2 : notStar c = true := by rfl) : PE X (.Call (.Name "max" p1) [a, c] [] pos) (rE b (evE cf (.max2 ca' cb'))) := se_max2 O.calm (O.blt h).1 (O.blt h).2.1 ha hb hs hs2
theorem g_ix (ha : PE X a (rR b (evE cf ca'))) (hb : PE X c (rR b (evE cf cb'))) (hs : notSl c = true := by rfl) : PE X (.Subscript a c pos) (rE b (evE cf (.ix ca' cb'))) := se_ix (by have := O.un; omega) O.ew ha hb hs
omit O in
theorem g_nil : PA X [] (rA b (evEs cf .nil)) := sa_nil
omit O in
theorem g_cons {es : List Expr} {cs : Es} (he : PE X e (rE b (evE cf ca'))) (hes : PA X es (rA b (evEs cf cs))) (hs : notStar e = true := by rfl) : PA X (e :: es) (rA b (evEs cf (.cons ca' cs))) := sa_cons he hes hs
/-! a call -/
theorem g_call {j : Nat} {es : List Expr} {cs : Es} (ha : PA X (e :: es) (rA b (evEs cf cs))) (h : fB T sc j x = true := by decide +kernel) (hl : lenEs cs = (T.ps j).length := by decide +kernel) (hs : (e :: es).all notStar = true := by rfl) : PE X (.Call (.Name x p1) (e :: es) [] pos) (rE b (evE cf (.call j cs))) :=
  se_call (O.fns j (O.f h).1) O.room (O.f h).2.1 (O.f h).2.2.1 (O.kp j (O.f h).1) (O.bd j (O.f h).1) O.tk ha hl hs (O.f h).2.2.2
theorem g_call0 {j : Nat} (h : fB T sc j x = true := by decide +kernel) (hl : (T.ps j).length = 0 := by decide +kernel) : PE X (.Call (.Name x p1) [] [] pos) (rE b (evE cf (.call j .nil))) :=
  se_call0 (O.fns j (O.f h).1) O.room (O.f h).2.1 (O.f h).2.2.1 (O.kp j (O.f h).1) (O.bd j (O.f h).1) O.tk hl (O.f h).2.2.2
theorem g_callk {j : Nat} {es : List Expr} {cs ks : Es} {kws : List Keyword} (ha : PA X (e :: es) (rA b (evEs cf cs))) (hkw : PK X kws (rA b (evEs cf ks))) (h : fB T sc j x = true := by decide +kernel) (hk : (j, lenEs cs) ∈ T.kb := by decide +kernel) (hl : lenEs cs + lenEs ks = (T.ps j).length := by decide +kernel) (hs : (e :: es).all notStar = true := by rfl)
    (ho : kwOk ((T.ps j).drop (lenEs cs)) kws = true := by decide +kernel) : PE X (.Call (.Name x p1) (e :: es) kws pos) (rE b (evE cf (.call j (appEs cs ks)))) :=
  se_callk (O.fns j (O.f h).1) O.room (O.f h).2.1 (O.f h).2.2.1 (O.kp j (O.f h).1) (O.kb j _ hk) O.tk ha hkw hl hs ho (O.f h).2.2.2
theorem g_callk0 {j : Nat} {ks : Es} {kws : List Keyword} (hkw : PK X kws (rA b (evEs cf ks))) (h : fB T sc j x = true := by decide +kernel) (hk : (j, 0) ∈ T.kb := by decide +kernel) (hl : lenEs ks = (T.ps j).length := by decide +kernel)
    (ho : kwOk (T.ps j) kws = true := by decide +kernel) : PE X (.Call (.Name x p1) [] kws pos) (rE b (evE cf (.call j ks))) :=
  se_callk0 (O.fns j (O.f h).1) O.room (O.f h).2.1 (O.f h).2.2.1 (O.kp j (O.f h).1) (O.kb j _ hk) O.tk hkw hl ho (O.f h).2.2.2
/-! tests -/
theorem q_val (ha : PE X a (rR b (evE cf ca'))) (he : ∀ whole, isTrue a X.env whole = (do let v ← whole; standAt a.pos; holding [v] (truthy v)) := by intro _; rfl) : PT X a (rT b (evT cf (.val ca'))) := st_val O.ew ha he
omit O in
theorem q_and {t u : Ev.T} {xs : List Expr} (ht : PT X a (rT b (evT cf t))) (hu : PW X (.BoolOp .And (c :: xs) pos) (rT b (evT cf u))) : PW X (.BoolOp .And (a :: c :: xs) pos) (rT b (evT cf (.and t u))) := sw_and ht hu
omit O in
theorem g_and1 (ha : PE X a (rE b (evE cf ca'))) : PE X (.BoolOp .And [a] pos) (rE b (evE cf ca')) := ⟨fun pins s σ H Q I h => by
  have := ha.run pins s σ H Q I h
  exact this⟩
omit O in
theorem g_or1 (ha : PE X a (rE b (evE cf ca'))) : PE X (.BoolOp .Or [a] pos) (rE b (evE cf ca')) := ⟨fun pins s σ H Q I h => by
  have := ha.run pins s σ H Q I h
  exact this⟩
/-! targets -/
theorem g_name (h : tB N sc fv i x = true := by decide +kernel) : PG X (.Name x pos) (rG b (.name i)) := sg_name (O.t h).1 (O.t h).2.1 (O.t h).2.2.1 (O.t h).2.2.2
theorem g_ttup {es : List Expr} {kk : Nat} {ts : Tgs} (hg : PGs X es (rGs b ts)) (hs : es.all notStar = true := by rfl) (hl : lenTs ts = es.length := by rfl) : PG X (.Tuple es kk pos) (rG b (.tup ts)) := sg_tup O.calm hg hs fun ds s s' h => (bindTs_len ts ds s s' h).trans hl
omit O in
theorem g_tcons {es : List Expr} {t : Tg} {ts : Tgs} (h1 : PG X e (rG b t)) (h2 : PGs X es (rGs b ts)) (hs : notStar e = true := by rfl) : PGs X (e :: es) (rGs b (.cons t ts)) := sgs_cons h1 h2 hs
/-! what is walked -/
variable {tg : Expr} {elts : List Expr} {kk : Nat} {tpos : Pos}
omit O in
theorem i_seq (ha : PE X a (rE b (evE cf ca'))) : PI X tg a (rI b (evI cf (.seq ca'))) := si_seq ha
theorem i_range1 (ha : PE X a (rR b (evE cf ca'))) (h : bB T sc "range" = true := by decide +kernel) (hs : notStar a = true := by rfl) : PI X tg (.Call (.Name "range" p1) [a] [] pos) (rI b (evI cf (.range1 ca'))) := si_range1 (O.blt h).1 (O.blt h).2.1 ha hs
theorem i_range2 (ha : PE X a (rR b (evE cf ca'))) (hb : PE X c (rR b (evE cf cb'))) (h : bB T sc "range" = true := by decide +kernel) (hs : notStar a = true := by rfl) (hs2 : notStar c = true := by rfl) : PI X tg (.Call (.Name "range" p1) [a, c] [] pos) (rI b (evI cf (.range2 ca' cb'))) := si_range2 (O.blt h).1 (O.blt h).2.1 ha hb hs hs2
theorem i_zip (ha : PE X a (rE b (evE cf ca'))) (hb : PE X c (rE b (evE cf cb'))) (h : bB T sc "zip" = true := by decide +kernel) (hs : notStar a = true := by rfl) (hs2 : notStar c = true := by rfl) : PI X (.Tuple elts kk tpos) (.Call (.Name "zip" p1) [a, c] [] pos) (rI b (evI cf (.zip ca' cb'))) := si_zip (O.blt h).1 (O.blt h).2.1 ha hb hs hs2
theorem i_enum (ha : PE X a (rE b (evE cf ca'))) (h : bB T sc "enumerate" = true := by decide +kernel) (hs : notStar a = true := by rfl) : PI X (.Tuple elts kk tpos) (.Call (.Name "enumerate" p1) [a] [] pos) (rI b (evI cf (.enum ca'))) := si_enum (O.blt h).1 (O.blt h).2.1 ha hs
end
end Ev

set_option Elab.async false
set_option linter.all false
set_option maxRecDepth 100000
set_option autoImplicit false
/-! EvS13: comprehensions, statements and defs over the bundle. -/
namespace Ev
open PySem PySem.Spec PyProof.Rows L2
section
variable {X : Cx} {b : Bx} {cf : CF} {e : Expr} {t : Ev.T}
theorem g_yes : PTs X [] (rT b (evTs cf .yes)) := ⟨fun pins s σ H Q I ⟨m, F, sl, w, wf, sr, p⟩ => pts_nil.run pins s σ H Q I (by
  have p : Post b m F H (R.ok true w) EqL Q := by simp only [evTs] at p; exact p
  exact p m F H true (Fm.refl _ _ _) wf rfl)⟩
theorem g_one (h : PT X e (rT b (evT cf t))) : PTs X [e] (rT b (evTs cf (.one t))) := ⟨fun pins s σ H Q I h' => (pts_one h).run pins s σ H Q I (by
  have e : evTs cf (.one t) = evT cf t := by funext s; simp only [evTs]
  rw [e] at h'
  exact h')⟩
end
def slB (tg : Tg) (own : List (Str × Nat)) : Bool := (slotsT tg).all fun j => (own.map (·.2)).contains j
theorem sl_of {tg : Tg} {own : List (Str × Nat)} (h : slB tg own = true) : ∀ j ∈ slotsT tg, j ∈ own.map (·.2) := fun j hj => by
  have := List.all_eq_true.mp h j hj
  simpa using this
/-- the statement's line and the name's kind: the list is stored as it is made -/
def swB (sc scope : Scope) (y : Str) (py pos : Pos) : Bool := lclB sc y && (py.line == pos.line) && !(scope.names.any fun (n, k) => n == y && (k == .local || k == .cell))
theorem sw_no {elt : Expr} {gs : List Comprehension} {scope : Scope} {pos py : Pos} {y : Str} {l : Nat} {env : Env} (hy : env.scope.names.lookup y = some .cell) : swapsWith (.ListComp elt gs scope pos) (some (.Name y py)) l env = pure false := by
  have ky : env.kindOf y = some .cell := hy
  unfold swapsWith
  simp only [ky, Expr.pos]
  cases (env.blockKind == ScopeKind.function) <;> rfl
section
variable {T : Tb} {fd : Nat → FuncData} {ca : Nat → Addr} {b : Bx} {cf : CF} {k fu : Nat} {X : Cx} {N : List Str} {sc : Scope} {fv : Str → Bool} (O : Ok T fd ca b cf k X N sc fv)
include O
variable {elt tg iter : Expr} {ifs : List Expr} {scope : Scope} {own : List (Str × Nat)} {pos : Pos} {tgc : Tg} {itc : I} {ifc : Ts} {ec : E}
theorem g_comp (hi : PI X tg iter (rI b (evI cf itc)))
    (hg : ∀ X', Ok T fd ca b.no cf k X' N (relS scope sc) (fun x => scope.names.lookup x == some .cell) → PG X' tg (rG b.no tgc))
    (ht : ∀ X', Ok T fd ca b.no cf k X' N (relS scope sc) (fun x => scope.names.lookup x == some .cell) → PTs X' ifs (rT b.no (evTs cf ifc)))
    (he : ∀ X', Ok T fd ca b.no cf k X' N (relS scope sc) (fun x => scope.names.lookup x == some .cell) → PE X' elt (rE b.no (evE cf ec)))
    (hb : blkC N sc scope own = true := by decide +kernel) (hs : slB tgc own = true := by decide +kernel) (hn : notSet iter = true := by rfl) :
    PE X (.ListComp elt [⟨tg, iter, ifs, 0⟩] scope pos) (rE b (evE cf (.comp ec tgc itc ifc (own.map (·.2))))) := by
  have bo := blkOk_by hb
  have N' : BlkOk X.N X.env.scope scope own := by rw [O.eN, O.esc]; exact bo
  exact (pe_lc O.calm (by rw [O.eN]; exact O.nd) hi N' (fun s H C cl fp => hg _ (O.blk s H scope bo.kind C cl fp)) (fun s H C cl fp => ht _ (O.blk s H scope bo.kind C cl fp)) (fun s H C cl fp => he _ (O.blk s H scope bo.kind C cl fp)) (folded_no hn)).imp fun σ H Q h => comp_strict (sl_of hs) h
theorem f_comp (hi : PI X tg iter (rI b (evI cf itc)))
    (hg : ∀ X', Ok T fd ca b.no cf k X' N (relS scope sc) (fun x => scope.names.lookup x == some .cell) → PG X' tg (rG b.no tgc))
    (ht : ∀ X', Ok T fd ca b.no cf k X' N (relS scope sc) (fun x => scope.names.lookup x == some .cell) → PTs X' ifs (rT b.no (evTs cf ifc)))
    (he : ∀ X', Ok T fd ca b.no cf k X' N (relS scope sc) (fun x => scope.names.lookup x == some .cell) → PE X' elt (rE b.no (evE cf ec)))
    (hb : blkC N sc scope own = true := by decide +kernel) (hs : slB tgc own = true := by decide +kernel) (hn : notSet iter = true := by rfl) :
    PE X (.ListComp elt [⟨tg, iter, ifs, 0⟩] scope pos) (rF b (evE cf (.comp ec tgc itc ifc (own.map (·.2))))) := by
  have bo := blkOk_by hb
  have N' : BlkOk X.N X.env.scope scope own := by rw [O.eN, O.esc]; exact bo
  exact (pe_lc O.calm (by rw [O.eN]; exact O.nd) hi N' (fun s H C cl fp => hg _ (O.blk s H scope bo.kind C cl fp)) (fun s H C cl fp => ht _ (O.blk s H scope bo.kind C cl fp)) (fun s H C cl fp => he _ (O.blk s H scope bo.kind C cl fp)) (folded_no hn)).imp fun σ H Q h => comp_fresh (sl_of hs) h
/-! name = [..] -/
variable {i : Nat} {y : Str} {py spos : Pos}
theorem swap_true (h : swB sc scope y py pos = true) (hl : (py.line == pos.line) = true) {gs : List Comprehension} {l : Nat} : swapsWith (.ListComp elt gs scope pos) (some (.Name y py)) l X.env = pure true ∧ X.env.scope.names.lookup y = some .local := by
  simp only [swB, Bool.and_eq_true, Bool.not_eq_true'] at h
  have h1 := lcl_of h.1.1
  rw [← O.esc] at h1
  exact ⟨sw_true (by rw [O.esc]; exact O.kd) h1 h.1.2 h.2, h1⟩
theorem g_setL (hi : PI X tg iter (rI b (evI cf itc)))
    (hg : ∀ X', Ok T fd ca b.no cf k X' N (relS scope sc) (fun x => scope.names.lookup x == some .cell) → PG X' tg (rG b.no tgc))
    (ht : ∀ X', Ok T fd ca b.no cf k X' N (relS scope sc) (fun x => scope.names.lookup x == some .cell) → PTs X' ifs (rT b.no (evTs cf ifc)))
    (he : ∀ X', Ok T fd ca b.no cf k X' N (relS scope sc) (fun x => scope.names.lookup x == some .cell) → PE X' elt (rE b.no (evE cf ec)))
    (hb : blkC N sc scope own = true := by decide +kernel) (hs : slB tgc own = true := by decide +kernel) (hn : notSet iter = true := by rfl) (hy : decide (N[i]? = some y) = true := by decide +kernel) (hw : swB sc scope y py pos = true := by decide +kernel) :
    PS X (.Assign [.Name y py] (.ListComp elt [⟨tg, iter, ifs, 0⟩] scope pos) spos) (rS b (evS cf fu (.set (.name i) (.comp ec tgc itc ifc (own.map (·.2)))))) := by
  have bo := blkOk_by hb
  have N' : BlkOk X.N X.env.scope scope own := by rw [O.eN, O.esc]; exact bo
  have hl : (py.line == pos.line) = true := by simp only [swB, Bool.and_eq_true] at hw; exact hw.1.2
  obtain ⟨w1, w2⟩ := swap_true O hw hl (elt := elt) (gs := [⟨tg, iter, ifs, 0⟩]) (l := spos.line)
  exact (ps_setLc O.calm (by rw [O.eN]; exact O.nd) (by rw [O.eN]; exact of_decide_eq_true hy) w2 w1 hi N' (fun s H C cl fp => hg _ (O.blk s H scope bo.kind C cl fp)) (fun s H C cl fp => ht _ (O.blk s H scope bo.kind C cl fp)) (fun s H C cl fp => he _ (O.blk s H scope bo.kind C cl fp)) (folded_no hn)).imp fun D σ H h => comp_strict (sl_of hs) (set_name h)
theorem g_setLM (hi : PI X tg iter (rI b (evI cf itc)))
    (hg : ∀ X', Ok T fd ca b.no cf k X' N (relS scope sc) (fun x => scope.names.lookup x == some .cell) → PG X' tg (rG b.no tgc))
    (ht : ∀ X', Ok T fd ca b.no cf k X' N (relS scope sc) (fun x => scope.names.lookup x == some .cell) → PTs X' ifs (rT b.no (evTs cf ifc)))
    (he : ∀ X', Ok T fd ca b.no cf k X' N (relS scope sc) (fun x => scope.names.lookup x == some .cell) → PE X' elt (rE b.no (evE cf ec)))
    (hb : blkC N sc scope own = true := by decide +kernel) (hs : slB tgc own = true := by decide +kernel) (hn : notSet iter = true := by rfl) (hy : decide (N[i]? = some y) = true := by decide +kernel) (hw : swB sc scope y py pos = true := by decide +kernel) :
    PS X (.Assign [.Name y py] (.ListComp elt [⟨tg, iter, ifs, 0⟩] scope pos) spos) (rS b (evS cf fu (.setM i (.comp ec tgc itc ifc (own.map (·.2)))))) := by
  have bo := blkOk_by hb
  have N' : BlkOk X.N X.env.scope scope own := by rw [O.eN, O.esc]; exact bo
  have hl : (py.line == pos.line) = true := by simp only [swB, Bool.and_eq_true] at hw; exact hw.1.2
  obtain ⟨w1, w2⟩ := swap_true O hw hl (elt := elt) (gs := [⟨tg, iter, ifs, 0⟩]) (l := spos.line)
  exact (ps_setLc O.calm (by rw [O.eN]; exact O.nd) (by rw [O.eN]; exact of_decide_eq_true hy) w2 w1 hi N' (fun s H C cl fp => hg _ (O.blk s H scope bo.kind C cl fp)) (fun s H C cl fp => ht _ (O.blk s H scope bo.kind C cl fp)) (fun s H C cl fp => he _ (O.blk s H scope bo.kind C cl fp)) (folded_no hn)).imp fun D σ H h => comp_fresh (sl_of hs) (setM_pre h)
variable {e : Expr} {c : E} {t : Tg}
/-- name = [..] where the name is a cell -/
theorem g_setC {gs : List Comprehension} (he : PE X (.ListComp elt gs scope pos) (rE b (evE cf c))) (ht : tB N sc fv i y = true := by decide +kernel) (hc : celB sc y = true := by decide +kernel) : PS X (.Assign [.Name y py] (.ListComp elt gs scope pos) spos) (rS b (evS cf fu (.set (.name i) c))) :=
  ss_set he (g_name O ht) (show swapsWith _ (some (.Name y py)) spos.line X.env = pure false from sw_no (by rw [O.esc]; exact cel_of hc)) (stores_no (.inl rfl)) rfl
theorem g_setCM {gs : List Comprehension} (he : PE X (.ListComp elt gs scope pos) (rF b (evE cf c))) (ht : tB N sc fv i y = true := by decide +kernel) (hc : celB sc y = true := by decide +kernel) : PS X (.Assign [.Name y py] (.ListComp elt gs scope pos) spos) (rS b (evS cf fu (.setM i c))) :=
  ss_setM (O.t ht).1 (O.t ht).2.1 (O.t ht).2.2.1 (O.t ht).2.2.2 he (sw_no (by rw [O.esc]; exact cel_of hc))
/-! statements -/
omit O in
theorem g_expr (he : PE X e (rE b (evE cf c))) (hn : notComp e = true := by rfl) : PS X (.Expr e pos) (rS b (evS cf fu (.expr c))) := ss_expr he hn
theorem g_set (he : PE X e (rE b (evE cf c))) (ht : tB N sc fv i y = true := by decide +kernel) (hn : notComp e = true := by rfl) : PS X (.Assign [.Name y py] e pos) (rS b (evS cf fu (.set (.name i) c))) :=
  ss_set he (g_name O ht) (show swapsWith _ (some (.Name y py)) pos.line X.env = pure false from swaps_no hn) (stores_no (.inl rfl)) rfl
omit O in
theorem g_unpack (he : PE X e (rE b (evE cf c))) (hg : PG X tg (rG b t)) (hn : notComp e = true := by rfl) (h2 : notTup e = true := by rfl) (h1 : notStar tg = true := by rfl) : PS X (.Assign [tg] e pos) (rS b (evS cf fu (.set t c))) :=
  ss_set he hg (show swapsWith _ (some tg) pos.line X.env = pure false from swaps_no hn) (stores_no (.inr h2)) h1
theorem g_setM (he : PE X e (rF b (evE cf c))) (ht : tB N sc fv i y = true := by decide +kernel) (hn : notComp e = true := by rfl) : PS X (.Assign [.Name y py] e pos) (rS b (evS cf fu (.setM i c))) :=
  ss_setM (O.t ht).1 (O.t ht).2.1 (O.t ht).2.2.1 (O.t ht).2.2.2 he (swaps_no hn)
theorem g_app {apos cpos p1 : Pos} (he : PE X e (rE b (evE cf c))) (h : vB N sc i y = true := by decide +kernel) (hs : notStar e = true := by rfl) (hl : (apos.endLine == cpos.line) = true := by rfl) : PS X (.Expr (.Call (.Attribute (.Name y p1) "append" apos) [e] [] cpos) pos) (rS b (evS cf fu (.app i c))) :=
  ss_app (O.v h).1 (O.v h).2.1 (O.v h).2.2.1 (O.v h).2.2.2 he hs hl
theorem g_ext {apos cpos p1 : Pos} (he : PE X e (rE b (evE cf c))) (h : vB N sc i y = true := by decide +kernel) (hs : notStar e = true := by rfl) (hl : (apos.endLine == cpos.line) = true := by rfl) : PS X (.Expr (.Call (.Attribute (.Name y p1) "extend" apos) [e] [] cpos) pos) (rS b (evS cf fu (.ext i c))) :=
  ss_ext (O.v h).1 (O.v h).2.1 (O.v h).2.2.1 (O.v h).2.2.2 he hs hl
theorem g_dput {kx vx : Expr} {ck cv : E} {p1 pos' : Pos} (hk : PE X kx (rE b (evE cf ck))) (hv : PE X vx (rE b (evE cf cv))) (h : vB N sc i y = true := by decide +kernel) (hn : notComp vx = true := by rfl) : PS X (.Assign [.Subscript (.Name y p1) kx pos'] vx pos) (rS b (evS cf fu (.dput i ck cv))) :=
  ss_dput (by have := O.un; omega) O.ew (O.v h).1 (O.v h).2.1 (O.v h).2.2.1 (O.v h).2.2.2 hk hv hn
theorem g_raise {j jj : Nat} {m : Str} {p p2 p3 : Pos} (h : xB T sc j y = true := by decide +kernel) : PS X (.Raise (some (.Call (.Name y p) [.Constant (.str m) jj p2] [] p3)) none pos) (rS b (evS cf fu (.raise j))) :=
  ss_raise O.calm O.tk (pmk_own PySem.F.excBase_ValueError (O.x h).2.1.exc (O.x h).2.1.mg (O.x h).2.1.kp (raises_own (O.x h).2.1.sub (O.x h).2.1.ty) (O.x h).1 (O.x h).2.2.2) (O.x h).2.2.1
theorem g_for {body : List Stmt} {bc : B} (hp : PassesOwn (model X.prog X.w) X.A X.env X.xe) (hi : PI X tg iter (rI b (evI cf itc))) (hg : PG X tg (rG b t)) (hb : PSs X body (rS b (evB cf fu bc))) (hns : notSet iter = true := by rfl) : PS X (.For tg iter body [] pos) (rS b (evS cf fu (.for_ t itc bc))) :=
  ss_for hp O.calm hi hg hb hns
end

/-! ### a def -/
theorem startA_eq {fn : Fn} {ds : List D} (h : ds.length ≤ fn.ns) : (startA fn ds).length = fn.ns := by
  unfold startA
  rw [List.length_append, List.length_map, List.length_replicate]
  omega
theorem start_sl {z : Zt} {m : Mu} {F : Fz} {H : Hp} {vs : List V} {ds : List D} {N : List Str} {fn : Fn} (hn : N.length = fn.ns) (r : RepAll z m F H vs ds) (hl : ds.length ≤ fn.ns) : SlR z m F H (startA fn ds) (L2.start N vs) H := by
  have key : ∀ (i : Nat) (sv : SV), (startA fn ds)[i]? = some (some sv) → ∃ d, sv = .i d ∧ ds[i]? = some d := fun i sv e => by
    unfold startA at e
    by_cases hi : i < ds.length
    · rw [List.getElem?_append_left (by rw [List.length_map]; exact hi), List.getElem?_map, List.getElem?_eq_getElem hi] at e
      cases e
      exact ⟨_, rfl, List.getElem?_eq_getElem hi⟩
    · rw [List.getElem?_append_right (by rw [List.length_map]; omega), List.getElem?_replicate] at e
      split at e <;> cases e
  have nm : ∀ i, ¬ isMut (startA fn ds) i := fun i h => by
    rcases h with ⟨xs, e⟩ | ⟨xs, e⟩
    · obtain ⟨d, q, _⟩ := key i _ e
      cases q
    · obtain ⟨d, q, _⟩ := key i _ e
      cases q
  refine ⟨?_, fun i d e => ?_, fun i xs e => (nm i (.inl ⟨xs, e⟩)).elim, fun i xs e => (nm i (.inr ⟨xs, e⟩)).elim, fun i a h => (nm i h).elim, fun i j a h => (nm i h).elim⟩
  · rw [startA_eq hl]
    unfold L2.start
    rw [List.length_append, List.length_map, List.length_replicate, r.length, ← hn]
    omega
  · obtain ⟨d', q, e'⟩ := key i _ e
    cases q
    obtain ⟨v, ev, rv⟩ := r.get e'
    refine ⟨v, ?_, rv⟩
    have hi : i < vs.length := (List.getElem?_eq_some_iff.mp ev).1
    unfold L2.start
    rw [List.getElem?_append_left (by rw [List.length_map]; exact hi), List.getElem?_map, ev]
    rfl
section
variable {P : Program} {w : World} {K : PySem.W.Frag} {mg : Str → Option Value} {base : Heap}
/-- what all bodies share -/
structure Fx (T : Tb) (fd : Nat → FuncData) (ca : Nat → Addr) (z : Zt) (cl : Nat → Value) (K : PySem.W.Frag) (mg : Str → Option Value) : Prop where
  mgf : ∀ j, j < T.fn.length → mg (T.nm j) = some (.ref (z.fa j))
  kp : ∀ j, j < T.fn.length → PySem.W.keepIn K (.ref (z.fa j)) = true
  bd : ∀ j, j < T.fn.length → Binds K (fd j) (T.ps j) []
  kb : ∀ j n, (j, n) ∈ T.kb → KB K (fd j) (T.ps j) n
  bl : ∀ x ∈ T.bl, mg x = none
  gi : ∀ p ∈ T.gi, ∃ t, mg p.1 = some (.int p.2 t)
  ex : ∀ (j : Nat) (x : Str), T.ex[j]? = some x → ExF K mg x (ca j) ∧ cl j = .ref (ca j)
def scB (N ps : List Str) (sc : Scope) (fn : Fn) : Bool := decide (N.Nodup) && decide (N.take ps.length = ps) && (ps.all fun x => locB sc x) && (sc.names.all fun y => match y.2 with | .free => false | _ => true) && decide (N.length = fn.ns) && decide (ps.length = fn.np) && decide (fn.np ≤ fn.ns) && (match sc.kind with | .function => true | _ => false) && !sc.isCoroutine && !sc.isGenerator
theorem def_ok {T : Tb} {fd : Nat → FuncData} {ca : Nat → Addr} {z : Zt} {cl : Nat → Value} {cf : CF} {k fu : Nat} (hw : z.wd = w) (A0 : Fx T fd ca z cl K mg) (IH : ∀ j, j < T.fn.length → FnOk P w K mg base (L2.CX P w) k (z.fa j) (fd j) (T.ps j) (spF z cl (cf j) (T.ps j).length))
    {x : Str} {st : Stmt} {f : Addr} {fdat : FuncData} {N ps : List Str} {fn : Fn} (F : FunD K x x (defArgs st) (defBody st) (defScope st) [] [] f fdat) (hs : scB N ps (defScope st) fn = true)
    (hb : ∀ (X : Cx) (b : Bx), b.z = z → b.cl = cl → Ok T fd ca b cf k X N (defScope st) (fun _ => true) → PassesOwn (model X.prog X.w) X.A X.env X.xe → PSs X (defBody st) (rS b (evB cf fu fn.body))) :
    FnOk P w K mg base (L2.CX P w) (k + 3) f fdat ps (spF z cl (runF cf fu fn) ps.length) := by
  simp only [scB, Bool.and_eq_true, decide_eq_true_eq, Bool.not_eq_true'] at hs
  obtain ⟨⟨⟨⟨⟨⟨⟨⟨⟨h1, h2⟩, h3⟩, h4⟩, h5⟩, h6⟩, h7⟩, h8⟩, h9⟩, h10⟩ := hs
  have hkd : (defScope st).kind = .function := by
    split at h8
    · assumption
    · cases h8
  have S : FnScope N ps (defScope st) := ⟨hkd, h9, h10, h1, h2, fun y hy => loc_of (List.all_eq_true.mp h3 y hy), fun y hy e => by
    have := List.all_eq_true.mp h4 y hy
    rw [e] at this
    cases this⟩
  refine F.ok S (fun vs H Q E h => h.1) fun cdv A outer s H vs Q E hr h => ?_
  obtain ⟨hl, m, Fz, w', ds, wf, r, p⟩ := h
  have O : Ok T fd ca (⟨z, cl, E, H, m, Fz⟩ : Bx) cf k (cxOf (L2.CX P w) P w K mg base N x (defScope st) f cdv A outer s H E) N (defScope st) (fun _ => true) :=
    { eN := rfl, nd := h1, esc := rfl, kd := hkd, efv := rfl, calm := rfl, room := hr.mono (Nat.le_add_right _ _), ew := hw, tk := takes_of rfl rfl rfl rfl, fns := IH, mgf := A0.mgf, kp := A0.kp, bd := A0.bd, kb := A0.kb, bl := A0.bl, gi := A0.gi, ex := A0.ex }
  refine ⟨_, hb _ _ rfl rfl O (passes_of rfl), ?_⟩
  have hd : ds.length = fn.np := by rw [← r.length, hl, h6]
  refine ⟨m, Fz, startA fn ds, w', ⟨wf, start_sl h5 r (by omega), Fm.refl _ _ _⟩, ?_⟩
  have p : Post ⟨z, cl, E, H, m, Fz⟩ m Fz H (runF cf fu fn ds w') (Rep z) Q := p
  unfold runF at p
  rw [if_pos hd] at p
  cases e : evB cf fu fn.body (startA fn ds) w' with
  | ok o w1 =>
    cases o with
    | nx s1 =>
      rw [bnd_ok e] at p
      exact fun m' F' H' σ' fk rel' => (show Post _ m Fz H (.ok .none w1) (Rep z) Q from p) m' F' H' .non rel'.fm rel'.wf .non
    | ct s1 =>
      rw [bnd_ok e] at p
      exact p.elim
    | rt d =>
      rw [bnd_ok e] at p
      exact fun m' F' H' v wf' fm' r' => (show Post _ m Fz H (.ok d w1) (Rep z) Q from p) m' F' H' v fm' wf' r'
  | exc c w1 =>
    rw [bnd_exc e] at p
    exact fun m' F' H' wf' fm' => p m' F' H' fm' wf'
  | bad =>
    rw [bnd_bad e] at p
    exact p.elim
end
end Ev

set_option Elab.async false
set_option linter.all false
set_option maxRecDepth 100000
set_option autoImplicit false
/-! EvHead: the defs level by level; the facts of the head. -/
namespace Ev
open PySem PySem.Spec PyProof.Rows L2
section
variable {P : Program} {w : World} {K : PySem.W.Frag} {mg : Str → Option Value} {base : Heap}
theorem fn_bad {z : Zt} {cl : Nat → Value} {k : Nat} {f : Addr} {fdat : FuncData} {ps : List Str} {g : List D → M D} (hg : ∀ ds w, g ds w = .bad) : FnOk P w K mg base (L2.CX P w) k f fdat ps (spF z cl g ps.length) := by
  have no : ∀ vs H Q E, ¬ spF z cl g ps.length vs H Q E := fun vs H Q E h => by
    obtain ⟨_, m, F, w', ds, _, _, p⟩ := h
    rw [hg] at p
    exact p
  exact ⟨fun vs H Q E h => absurd h (no vs H Q E), fun A outer s H args us vs Q E _ _ _ _ h => absurd h (no vs H Q E)⟩
/-- all defs at once, by the depth of the calls -/
theorem levels {T : Tb} {fd : Nat → FuncData} {z : Zt} {cl : Nat → Value} {fs : List Def} {fu : Nat} (hl : fs.length = T.fn.length)
    (step : ∀ (n j : Nat), j < T.fn.length → (∀ i, i < T.fn.length → FnOk P w K mg base (L2.CX P w) (3 * n) (z.fa i) (fd i) (T.ps i) (spF z cl (callN fs fu n i) (T.ps i).length)) →
      ∀ d, fs[j]? = some d → FnOk P w K mg base (L2.CX P w) (3 * n + 3) (z.fa j) (fd j) (T.ps j) (spF z cl (callD (callN fs fu n) fu d) (T.ps j).length)) :
    ∀ (n j : Nat), j < T.fn.length → FnOk P w K mg base (L2.CX P w) (3 * n) (z.fa j) (fd j) (T.ps j) (spF z cl (callN fs fu n j) (T.ps j).length)
  | 0, j, _ => fn_bad fun _ _ => rfl
  | n + 1, j, hj => by
    have IH := levels hl step n
    have e : fs[j]? = some fs[j] := List.getElem?_eq_getElem (by omega)
    have h := step n j hj IH _ e
    have q : callN fs fu (n + 1) j = callD (callN fs fu n) fu fs[j] := by
      funext ds
      show (match fs[j]? with
        | some d => callD (callN fs fu n) fu d ds
        | none => bad) = _
      rw [e]
    rw [q]
    exact h
end
/-! ### the head -/
def fnL (top : Nat → Stmt) (T : Tb) (pl : List Nat) : List He.DefD := (T.fn.zip pl).map fun p => ⟨(p.1.1, none), p.1.1, p.1.1, defArgs (top p.2), defBody (top p.2), defScope (top p.2), [], []⟩
def faL (T : Tb) : List He.Fa := T.fn.map (fun p => .glo p.1) ++ (T.bl.map .free ++ (T.gi.map (fun p => .int p.1 p.2) ++ (T.ex.map .glo ++ T.ex.map .exc)))
section
variable {K : PySem.W.Frag} {h : Heap} {mg : Str → Option Value} {T : Tb} {top : Nat → Stmt} {pl : List Nat}
theorem says_mem {fa : List He.Fa} {fn : List He.DefD} (c : He.SaysD fa fn K) {f : He.Fa} (hf : f ∈ fa) : f.ok K = true := by
  obtain ⟨i, hi⟩ := List.mem_iff_getElem?.mp hf
  exact c.fact i hi
theorem says_fn (hl : T.fn.length = pl.length) (c : He.SaysD (faL T) (fnL top T pl) K) (j : Nat) (hj : j < T.fn.length) : ∃ fd, FunD K (T.nm j) (T.nm j) (defArgs (top (pl.getD j 0))) (defBody (top (pl.getD j 0))) (defScope (top (pl.getD j 0))) [] [] (He.ga K (T.nm j)) fd := by
  have e : (fnL top T pl)[j]? = some ⟨(T.nm j, none), T.nm j, T.nm j, defArgs (top (pl.getD j 0)), defBody (top (pl.getD j 0)), defScope (top (pl.getD j 0)), [], []⟩ := by
    unfold fnL
    have hj2 : j < (T.fn.zip pl).length := by rw [List.length_zip]; omega
    have e1 : (T.fn.zip pl)[j]? = some (T.fn[j], pl[j]) := by
      rw [List.getElem?_eq_getElem hj2, List.getElem_zip]
    rw [List.getElem?_map, e1]
    have n1 : T.nm j = T.fn[j].1 := by
      unfold Tb.nm
      rw [List.getD_eq_getElem?_getD, List.getElem?_eq_getElem hj]
      rfl
    have n2 : pl.getD j 0 = pl[j] := by
      rw [List.getD_eq_getElem?_getD, List.getElem?_eq_getElem (by omega)]
      rfl
    rw [n1, n2]
    rfl
  exact c.def_ j e
/-- the bundle, from what the head says -/
theorem fx_of (X : K.In h) (G : h.Ns mainGlobals mg) (c : He.SaysD (faL T) (fnL top T pl) K) {z : Zt} (hz : ∀ j, j < T.fn.length → z.fa j = He.ga K (T.nm j)) {fd : Nat → FuncData}
    (hF : ∀ j, j < T.fn.length → PySem.W.keepIn K (.ref (z.fa j)) = true) (hb : ∀ j, j < T.fn.length → Binds K (fd j) (T.ps j) []) (hk : ∀ j n, (j, n) ∈ T.kb → KB K (fd j) (T.ps j) n) :
    Fx T fd (fun j => He.ga K (T.ex.getD j "")) z (fun j => .ref (He.ga K (T.ex.getD j ""))) K mg where
  mgf := fun j hj => by
    rw [hz j hj]
    refine He.glo_ok X G (says_mem c ?_)
    refine List.mem_append_left _ (List.mem_map.mpr ⟨T.fn[j], List.getElem_mem hj, ?_⟩)
    unfold Tb.nm
    rw [List.getD_eq_getElem?_getD, List.getElem?_eq_getElem hj]
    rfl
  kp := hF
  bd := hb
  kb := hk
  bl := fun x hx => He.free_ok X G (says_mem c (List.mem_append_right _ (List.mem_append_left _ (List.mem_map.mpr ⟨x, hx, rfl⟩))))
  gi := fun p hp => He.int_ok X G (says_mem c (List.mem_append_right _ (List.mem_append_right _ (List.mem_append_left _ (List.mem_map.mpr ⟨p, hp, rfl⟩)))))
  ex := fun j x hx => by
    have hm := List.mem_of_getElem? hx
    have e : T.ex.getD j "" = x := by
      rw [List.getD_eq_getElem?_getD, hx]
      rfl
    have h1 := He.glo_ok X G (says_mem (f := .glo x) c (List.mem_append_right _ (List.mem_append_right _ (List.mem_append_right _ (List.mem_append_left _ (List.mem_map.mpr ⟨x, hm, rfl⟩))))))
    have h2 := says_mem (f := .exc x) c (List.mem_append_right _ (List.mem_append_right _ (List.mem_append_right _ (List.mem_append_right _ (List.mem_map.mpr ⟨x, hm, rfl⟩)))))
    obtain ⟨k1, k2⟩ := He.ba (show (PySem.W.excIn K (He.ga K x) He.veBase "ValueError.__new__" && (PySem.W.keepIn K (.ref (He.ga K x)) && (decide (PySem.W.subIn K (.ref (He.ga K x)) (.type "BaseException") = some true) && decide (PySem.W.typeIn K (.ref (He.ga K x)) = some (.type "type"))))) = true from h2)
    obtain ⟨k3, k4⟩ := He.ba k2
    obtain ⟨k5, k6⟩ := He.ba k4
    rw [e]
    exact ⟨⟨k1, h1, k3, of_decide_eq_true k5, of_decide_eq_true k6⟩, rfl⟩
end
/-! ### the law's call -/
theorem walk_ofW {l : PySem.W.OpenLaw} {n k : Nat} {q : Program} {loose : List Str} {XP : (Str → Option Value) → Heap → Prop} {YP : World → Heap → Prop} {d : DefRec} {CX : World → CXT} {x : Str}
    (hn : l.most = some n) (hn2 : n ≤ sizeLine) (hdf : d.params.defaults = []) (hr : Room k callerA)
    (F : ∀ (w : World) (mg : Str → Option Value) (fa : Addr) (h : Heap), YP w h → h.Ns mainGlobals mg → mg d.name = some (.ref fa) →
      ∃ (K : PySem.W.Frag) (fd : FuncData) (sp : List Int → Addr → Sp), K.In h ∧ (∀ (s : Shared) (u : Value), BindsTo s fd ⟨[u], []⟩ [(x, u)]) ∧
        (∀ (H : Hp) (a : Addr) (ns : List Int), ns.length ≤ n → Only H → SqL K H a (ns.map V.int) → sp ns a [.ref a] H (fun v _ => v = .bl true) fun _ _ _ => False) ∧
        ∀ (ns : List Int) (a : Addr) (base : Heap), K.In base → base.Ns mainGlobals mg → FnOk l.prog w K mg base (CX w) k fa fd [x] (sp ns a))
    (hCX : ∀ (w : World) (H : Hp) (s : Shared) (e : Value) (s' : Shared), CX w [] H s (fun _ _ _ => False) e s' → False) :
    PySem.W.WalkO q loose XP YP l.row.toRowW d [] (fun f vs => PySem.call f vs) := by
  refine Att.attach_call hn hdf fun w s₀ s₁ mg mb fa o pm cd doc a vs ns G Y ho hd hcd hmg hobj hints hlen hg => ?_
  obtain ⟨K, fd, sp, KX, hb, hsp, hF⟩ := F w mg fa _ Y G.T.g hmg
  exact law_call KX G.T.g G.T.b G.T.builtins G.T.nolimit hg hobj hints (Nat.le_trans hlen hn2) hr (hF ns a) hb (fun H hO hS => hsp H a ns hlen hO hS) fun H e s' => hCX w H s₁ e s'
theorem cx_no {P : Program} {w : World} {H : Hp} {s : Shared} {e : Value} {s' : Shared} (h : L2.CX P w [] H s (fun _ _ _ => False) e s') : False := by
  obtain ⟨_, _, _, _, _, _, _, _, _, _, _, _, z⟩ := h
  exact z
/-- the start: nothing but the script and the tables -/
def tabW (tb : List (Addr × Str)) : W := .non :: tb.map fun p => .tab p.2
def tabM (tb : List (Addr × Str)) : Mu := [] :: tb.map fun p => [p.1]
theorem tabM_flat (tb : List (Addr × Str)) : (tabM tb).flatten = tb.map (·.1) := by
  unfold tabM
  rw [List.flatten_cons, List.nil_append]
  induction tb with
  | nil => rfl
  | cons p r ih => rw [List.map_cons, List.flatten_cons, ih]; rfl
theorem start_wf {K : PySem.W.Frag} {H : Hp} {a : Addr} {ns : List Int} {fa : Nat → Addr} {tb : List (Addr × Str)} {wd : World} (hS : SqL K H a (ns.map V.int)) (hT : ∀ p ∈ tb, H p.1 = some (.tbl #[])) (nd : (tb.map (·.1)).Nodup) :
    Wf ⟨fa, K, a, ns, tb, wd⟩ (tabM tb) (fun b => b = a ∧ (∃ xs, Rd H b (.lst xs)) ∧ ∃ o, H b = some o) (tabW tb) H where
  len := by unfold tabM tabW; rw [List.length_cons, List.length_cons, List.length_map, List.length_map]
  obj := fun n as mo h1 h2 => by
    unfold tabM at h1
    unfold tabW at h2
    cases n with
    | zero =>
      cases h1
      cases h2
      rfl
    | succ n =>
      rw [List.getElem?_cons_succ, List.getElem?_map] at h1 h2
      cases e : tb[n]? with
      | none => rw [e] at h1; cases h1
      | some p =>
        rw [e] at h1 h2
        cases h1
        cases h2
        exact ⟨p.1, rfl, #[], hT p (List.mem_of_getElem? e), True.intro, fun pos cv hc => by
          have z : codeAmong pos [] = some cv := hc
          simp [codeAmong] at z⟩
  nd := by rw [tabM_flat]; exact nd
  nF := fun b hm hF => by
    rw [tabM_flat] at hm
    obtain ⟨p, hp, e⟩ := List.mem_map.mp hm
    obtain ⟨_, ⟨xs, h⟩, _⟩ := hF
    have q := hT p hp
    rw [e] at q
    rcases h with h | ⟨o, h⟩
    · rw [h] at q; cases q
    · rw [h] at q; cases q
  dom := fun b h => h.2.2
  mdom := fun b hm => by
    rw [tabM_flat] at hm
    obtain ⟨p, hp, e⟩ := List.mem_map.mp hm
    exact ⟨_, e ▸ hT p hp⟩
  scr := by
    rcases hS with h | h
    · refine .inl ⟨⟨rfl, ⟨_, h⟩, ?_⟩, h⟩
      rcases h with h | ⟨o, h⟩
      · exact ⟨_, h⟩
      · exact ⟨_, h⟩
    · exact .inr h
  tab := fun i p e => by
    unfold tabM tabW
    have e : tb[i]? = some p := e
    rw [List.getElem?_cons_succ, List.getElem?_cons_succ, List.getElem?_map, List.getElem?_map, e]
    exact ⟨rfl, rfl⟩

theorem kb_of {K : PySem.W.Frag} {x qual : Str} {params : Arguments} {body : List Stmt} {scope : Scope} {f : Addr} {fd : FuncData} {ps : List Str} {n : Nat} (F : FunD K x qual params body scope [] [] f fd)
    (h : ∀ (kV doc pm : Value) (an : Option Addr) (cdv ct : Value) (us ws : List Value), us.length = n → ws.length = (ps.drop n).length → bindArgs (PySem.W.fnOf x qual params body scope .none kV doc pm an cdv ct) ⟨us, (ps.drop n).zip ws⟩ = pure (ps.zip (us ++ ws))) : KB K fd ps n := by
  intro s us ws _ h1 h2
  obtain ⟨oc, od, dV, kV, doc, pm, an, cdv, ct, osl, rfl, lk, hcd, hD, hK⟩ := F.ex
  rcases hD with ⟨_, rfl⟩ | ⟨e, _⟩
  · exact .of_eq (h kV doc pm an cdv ct us ws h1 (by rw [List.length_drop]; omega))
  · exact absurd rfl e
end Ev

set_option Elab.async false
set_option linter.all false
set_option maxRecDepth 100000
set_option autoImplicit false
/-! EvDraw: the laws' own random numbers. -/
namespace Ev
open PySem PySem.Spec PyProof.Rows L2
/-! ### what they are -/
def isScr : D → Bool
  | .dict [(.bool false, .none)] => true
  | _ => false
def obN : D → Option Nat
  | .dict [(.bool true, .int n)] => if 0 ≤ n then some n.toNat else none
  | _ => none
def lookI : List (Int × Int) → Int → Option Int
  | [], _ => none
  | (k, v) :: r, x => if k = x then some v else lookI r x
def putI (rs : List (Int × Int)) (x v : Int) : List (Int × Int) :=
  if rs.any (fun p => decide (p.1 = x)) then rs.map (fun p => if p.1 = x then (p.1, v) else p) else rs ++ [(x, v)]
def atS (ns : List Int) (c : Int) : Int := if ns = [] then 0 else c % ns.length
def restI (ns : List Int) (rs : List (Int × Int)) (a : Int) : Int := (lookI rs a).getD (if ns = [] then 0 else ns.getD a.toNat 0)
def drawR (c rest many : Int) : Int := if 10 ^ 18 ≤ rest then rest % many else
  ((((rest + 104729 * c) % 4294967291) ^ 5 % 4294967279) / 64 * 69621 + (((rest + 104729 * c) % 4294967291) ^ 5 % 4294967279)) % 4294967231 / 8 % many
def drawT (ns : List Int) (c : Int) (rs : List (Int × Int)) (many : Int) (n : Nat) : M D := fun w =>
  .ok (.int (drawR (c + 1) (restI ns rs (atS ns (c + 1))) many)) (w.set n (.town (c + 1) (if 10 ^ 18 ≤ restI ns rs (atS ns (c + 1)) then putI rs (atS ns (c + 1)) (restI ns rs (atS ns (c + 1)) / many) else rs)))
def townW (w : W) (n : Nat) : Option (Int × List (Int × Int)) := match w[n]? with
  | some (.town c rs) => some (c, rs)
  | _ => none
def drawP (ns : List Int) : List D → M D
  | [s, t, m] => fun w => if isScr s then (bnd (lift (obN t)) fun n => bnd (lift (intD m)) fun many => bnd (lift (townW w n)) fun p => if 0 < many ∧ many < 1073741824 ∧ p.2.length < 1000 then drawT ns p.1 p.2 many n else bad) w else .bad
  | _ => bad
/-- the town is the store's first object -/
def begunW : W → R D
  | .non :: r => .ok (obD 0) (.town 0 [] :: r)
  | _ => .bad
def begunP : List D → M D
  | [] => begunW
  | _ => bad
theorem townW_some {w : W} {n : Nat} {p : Int × List (Int × Int)} (h : townW w n = some p) : w[n]? = some (.town p.1 p.2) := by
  unfold townW at h
  split at h
  · rename_i q
    cases h
    exact q
  · cases h
/-! ### the objects as they lie -/
theorem RepKV.keyed {z : Zt} {m : Mu} {F : Fz} {H : Hp} : ∀ {kvs : List (Key × V)} {ds : List (D × D)}, RepKV z m F H kvs ds → ∀ p ∈ ds, keyOk p.1 = true
  | _, _, .nil, p, hp => nomatch hp
  | _, _, .cons (k := k) h t, p, hp => by
    rcases List.mem_cons.mp hp with e | hp
    · subst e
      cases k <;> rfl
    · exact RepKV.keyed t p hp
theorem rep_dict {z : Zt} {m : Mu} {F : Fz} {H : Hp} {v : V} {k x : D} (hk : keyOk k = false) (ht : tkOk k = false) (r : Rep z m F H v (.dict [(k, x)])) : (∃ n, .dict [(k, x)] = fnD n ∧ v = .ref (z.fa n)) ∨ (.dict [(k, x)] = scrD ∧ v = .ref z.sa) ∨ ∃ n a, .dict [(k, x)] = obD n ∧ v = .ref a ∧ mainA m n = some a := by
  generalize hd : PyData.dict [(k, x)] = d at r
  cases r with
  | dK h1 h2 h3 =>
    exfalso
    cases hd
    cases h3 with
    | k h3 =>
      have := RepKV.keyed h3 (k, x) List.mem_cons_self
      rw [hk] at this
      cases this
    | n h3 _ =>
      cases h3 with
      | cons h0 _ _ _ =>
        rw [ht] at h0
        cases h0
  | fn n => exact .inl ⟨n, rfl, rfl⟩
  | scr => exact .inr (.inl ⟨rfl, rfl⟩)
  | ob h => exact .inr (.inr ⟨_, _, rfl, rfl, h⟩)
  | _ => cases hd
theorem rep_scr {z : Zt} {m : Mu} {F : Fz} {H : Hp} {v : V} {d : D} (h : isScr d = true) (r : Rep z m F H v d) : v = .ref z.sa := by
  have e : d = scrD := by
    unfold isScr at h
    split at h
    · rfl
    · cases h
  subst e
  rcases rep_dict (k := .bool false) (x := .none) rfl rfl r with ⟨n, q, _⟩ | ⟨_, e⟩ | ⟨n, a, q, _⟩
  · unfold fnD at q; cases q
  · exact e
  · unfold obD at q; cases q
theorem rep_ob {z : Zt} {m : Mu} {F : Fz} {H : Hp} {v : V} {d : D} {n : Nat} (h : obN d = some n) (r : Rep z m F H v d) : ∃ a, v = .ref a ∧ mainA m n = some a := by
  unfold obN at h
  split at h
  · rename_i k
    rcases rep_dict (k := .bool true) (x := .int k) rfl rfl r with ⟨n, q, _⟩ | ⟨q, _⟩ | ⟨n', a, q, e1, e2⟩
    · unfold fnD at q; cases q
    · unfold scrD at q; cases q
    · unfold obD at q
      cases q
      split at h
      · cases h
        exact ⟨a, e1, e2⟩
      · cases h
  · cases h

/-! ### the reading -/
abbrev rPl : R2 := rI0 fun i j => .int (i + j)
abbrev rMl : R2 := L2.rI CMul fun i j => .int (i * j)
abbrev rDv : R2 := L2.rI CDiv fun i j => .int (i / j)
abbrev rMd : R2 := L2.rI (fun _ j => 0 < j) fun i j => .int (i % j)
abbrev rPw : R2 := L2.rI CPow fun i j => .int (i ^ j.toNat)
abbrev rGe : R2 := rI0 fun i j => .bl (decide (j ≤ i))
abbrev tTr (K : PySem.W.Frag) (ta : TE) : TT := fun σ H Q => ta σ H fun x H' => ∃ k, TruV K x H' k ∧ Q k H'
abbrev tLn (K : PySem.W.Frag) (ta : TE) : TE := tCB (fun xs H Q => ∃ x n, xs = [x] ∧ LenV K x H n ∧ Q (.int n) H) (tCons ta tNil)
abbrev tI (i : Int) : TE := tC (.int i)
abbrev tS (x : Str) : TE := tC (.str x)
def t_draw (K : PySem.W.Frag) : TS :=
  tSeq (sDPut (tVar 1) (tS "count") (tOp rPl (tDGet (tVar 1) (tS "count")) (tI 1)))
  (tSeq (tAsg (tIf (tTr K (tVar 0)) (tOp rMd (tDGet (tVar 1) (tS "count")) (tLn K (tVar 0))) (tI 0)) (gName 3))
  (tSeq (tAsg (tDGet2 (tDGet (tVar 1) (tS "rests")) (tVar 3) (tIf (tTr K (tVar 0)) (tOp (rIxL K) (tVar 0) (tVar 3)) (tI 0))) (gName 4))
  (tSeq (tIfS (tTest (tOp rGe (tVar 4) (tOp rPw (tI 10) (tI 18)))) (tSeq (sDPut (tDGet (tVar 1) (tS "rests")) (tVar 3) (tOp rDv (tVar 4) (tVar 2))) (tRet (tOp rMd (tVar 4) (tVar 2)))) tNext)
  (tSeq (tAsg (tOp rMd (tOp rPl (tVar 4) (tOp rMl (tI 104729) (tDGet (tVar 1) (tS "count")))) (tI 4294967291)) (gName 5))
  (tSeq (tAsg (tOp rMd (tOp rPw (tVar 5) (tI 5)) (tI 4294967279)) (gName 5))
  (tRet (tOp rMd (tOp rDv (tOp rMd (tOp rPl (tOp rMl (tOp rDv (tVar 5) (tI 64)) (tI 69621)) (tVar 5)) (tI 4294967231)) (tI 8)) (tVar 2))))))))

def tK (c : Int) (r : Addr) : List (Key × V) := [(.inr "count", .int c), (.inr "rests", .ref r)]
def rK (rs : List (Int × Int)) : List (Key × V) := rs.map fun p => (.inl p.1, .int p.2)
theorem tK_count (c : Int) (r : Addr) : valV (tK c r) (.inr "count") = some (.int c) := rfl
theorem tK_rests (c : Int) (r : Addr) : valV (tK c r) (.inr "rests") = some (.ref r) := by
  have ne : (Sum.inr ("count" : Str) : Key) ≠ Sum.inr ("rests" : Str) := by decide
  unfold valV tK
  rw [List.find?_cons_of_neg (by simpa using ne), List.find?_cons_of_pos (by simp)]
  rfl
theorem tK_put (c c' : Int) (r : Addr) : putK (tK c r) (.inr "count") (.int c') = tK c' r := by
  have ne : (Sum.inr ("rests" : Str) : Key) ≠ Sum.inr ("count" : Str) := by decide
  unfold putK tK
  rw [if_pos (by simp), List.map_cons, List.map_cons, if_pos rfl, if_neg ne]
  rfl
theorem rK_val (rs : List (Int × Int)) (x : Int) : valV (rK rs) (.inl x) = (lookI rs x).map V.int := by
  induction rs with
  | nil => rfl
  | cons p r ih =>
    obtain ⟨k, v⟩ := p
    unfold valV at ih ⊢
    show (List.find? _ ((Sum.inl k, V.int v) :: rK r)).map _ = _
    unfold lookI
    by_cases hk : k = x
    · subst hk
      rw [List.find?_cons_of_pos (by simp), if_pos rfl]
      rfl
    · rw [List.find?_cons_of_neg (by simp [hk]), if_neg hk]
      exact ih
theorem rK_put (rs : List (Int × Int)) (x v : Int) : putK (rK rs) (.inl x) (.int v) = rK (putI rs x v) := by
  have ea : ((rK rs).any fun kv => decide (kv.1 = (Sum.inl x : Key))) = rs.any (fun p => decide (p.1 = x)) := by
    unfold rK
    rw [List.any_map]
    congr 1
    funext p
    simp
  unfold putK putI
  rw [ea]
  split
  · unfold rK
    rw [List.map_map, List.map_map]
    congr 1
    funext p
    show (if (Sum.inl p.1 : Key) = Sum.inl x then _ else _) = _
    by_cases h : p.1 = x
    · rw [if_pos (by rw [h])]
      simp [h]
    · rw [if_neg (by simp [h])]
      simp [h]
  · unfold rK
    rw [List.map_append]
    rfl
/-- a town is written -/
theorem Wf.town {z : Zt} {m : Mu} {F : Fz} {w : W} {H H' : Hp} {n : Nat} {t r : Addr} {c c' : Int} {rs rs' : List (Int × Int)} (wf : Wf z m F w H) (hm : m[n]? = some [t, r]) (hw : w[n]? = some (.town c rs)) (ht : H' t = some (.dK (tK c' r))) (hr : H' r = some (.dK (rK rs'))) (ho : ∀ b, b ≠ t → b ≠ r → H' b = H b) :
    Wf z m F (w.set n (.town c' rs')) H' ∧ Fm m F H m F H' := by
  have mt : t ∈ m.flatten := List.mem_flatten.mpr ⟨_, List.mem_of_getElem? hm, by simp⟩
  have mr : r ∈ m.flatten := List.mem_flatten.mpr ⟨_, List.mem_of_getElem? hm, by simp⟩
  have hn : n < w.length := (List.getElem?_eq_some_iff.mp hw).1
  have keep : ∀ a o, H a = some o → a ∉ m.flatten → H' a = some o := fun a o h hn => by
    rw [ho a (fun e => hn (e ▸ mt)) (fun e => hn (e ▸ mr))]
    exact h
  have dom : ∀ a o, H a = some o → ∃ o', H' a = some o' := fun a o h => by
    by_cases e1 : a = t
    · exact ⟨_, e1 ▸ ht⟩
    · by_cases e2 : a = r
      · exact ⟨_, e2 ▸ hr⟩
      · exact ⟨o, by rw [ho a e1 e2]; exact h⟩
  refine ⟨⟨by rw [List.length_set]; exact wf.len, fun k as mo h1 h2 => ?_, wf.nd, wf.nF, fun a h => ?_, fun a h => ?_, ?_, fun i p e => ?_⟩, ⟨keep, dom, fun _ h => .inl h, fun _ _ h => h, fun _ h => h, fun _ h => .inl h⟩⟩
  · by_cases hk : k = n
    · subst hk
      rw [List.getElem?_set_self hn] at h2
      cases h2
      rw [hm] at h1
      cases h1
      exact ⟨t, r, rfl, ht, hr⟩
    · rw [List.getElem?_set_ne (Ne.symm hk)] at h2
      refine (wf.obj k as mo h1 h2).fm (fun a o ha h => ?_) (fun _ h => h) fun a o hF h => keep a o h fun hm => wf.nF a hm hF
      -- the addresses of two objects differ
      have ne : ∀ b, b ∈ [t, r] → a ≠ b := fun b hb e => by
        subst e
        have nd := wf.nd
        have nd := List.pairwise_flatten.mp nd
        have pw := List.pairwise_iff_getElem.mp nd.2
        obtain ⟨k1, e1⟩ := List.getElem?_eq_some_iff.mp h1
        obtain ⟨k2, e2⟩ := List.getElem?_eq_some_iff.mp hm
        rcases Nat.lt_or_gt_of_ne hk with q | q
        · exact (pw k n k1 k2 q) a (by rw [e1]; exact ha) a (by rw [e2]; exact hb) rfl
        · exact (pw n k k2 k1 q) a (by rw [e2]; exact hb) a (by rw [e1]; exact ha) rfl
      rw [ho a (ne t (by simp)) (ne r (by simp))]
      exact h
  · obtain ⟨o, h'⟩ := wf.dom a h
    exact dom a o h'
  · obtain ⟨o, h'⟩ := wf.mdom a h
    exact dom a o h'
  · exact wf.scr.imp (fun ⟨h1, h2⟩ => ⟨h1, Rd.keep h2 fun o h => keep _ o h fun hm => wf.nF _ hm h1⟩) id
  · obtain ⟨e1, e2⟩ := wf.tab i p e
    refine ⟨e1, ?_⟩
    have ne : n ≠ i + 1 := fun q => by
      rw [q, e2] at hw
      cases hw
    rw [List.getElem?_set_ne ne]
    exact e2
theorem town_at {z : Zt} {m : Mu} {F : Fz} {w : W} {H : Hp} {n : Nat} {t : Addr} {c : Int} {rs : List (Int × Int)} (wf : Wf z m F w H) (ha : mainA m n = some t) (hw : w[n]? = some (.town c rs)) : ∃ r, m[n]? = some [t, r] ∧ H t = some (.dK (tK c r)) ∧ H r = some (.dK (rK rs)) ∧ t ≠ r := by
  unfold mainA at ha
  cases hm : m[n]? with
  | none => rw [hm] at ha; cases ha
  | some as =>
    rw [hm] at ha
    obtain ⟨t', r, e, h1, h2⟩ := wf.obj n as _ hm hw
    subst e
    cases (show some t' = some t from ha)
    refine ⟨r, rfl, h1, h2, fun e => ?_⟩
    subst e
    have nd := wf.nd
    have nd := List.pairwise_flatten.mp nd
    have := nd.1 _ (List.mem_of_getElem? hm)
    simp at this
section
variable {K : PySem.W.Frag} {z : Zt} {cl : Nat → Value} {Q : VK} {E : XK}
/-- behind the number that is left over -/
theorem draw_tail {m : Mu} {F : Fz} {w : W} {H H1 : Hp} {n : Nat} {t r : Addr} {c : Int} {rs : List (Int × Int)} {v0 x y : V} {at' rest many : Int} (hK : z.K = K) (wf : Wf z m F w H) (hm : m[n]? = some [t, r]) (hw : w[n]? = some (.town c rs)) (tr : t ≠ r)
    (ht : H1 t = some (.dK (tK (c + 1) r))) (hr : H1 r = some (.dK (rK rs))) (ho : ∀ b, b ≠ t → b ≠ r → H1 b = H b) (h1 : 0 < many) (h2 : many < 1073741824) (hl : rs.length < 1000)
    (p : Post ⟨z, cl, E, H, m, F⟩ m F H (.ok (.int (drawR (c + 1) rest many)) (w.set n (.town (c + 1) (if 10 ^ 18 ≤ rest then putI rs at' (rest / many) else rs)))) (Rep z) Q) (ex : x = .int at') (ey : y = .int rest) :
    (tSeq (tIfS (tTest (tOp rGe (tVar 4) (tOp rPw (tI 10) (tI 18)))) (tSeq (sDPut (tDGet (tVar 1) (tS "rests")) (tVar 3) (tOp rDv (tVar 4) (tVar 2))) (tRet (tOp rMd (tVar 4) (tVar 2)))) tNext)
      (tSeq (tAsg (tOp rMd (tOp rPl (tVar 4) (tOp rMl (tI 104729) (tDGet (tVar 1) (tS "count")))) (tI 4294967291)) (gName 5))
      (tSeq (tAsg (tOp rMd (tOp rPw (tVar 5) (tI 5)) (tI 4294967279)) (gName 5))
      (tRet (tOp rMd (tOp rDv (tOp rMd (tOp rPl (tOp rMl (tOp rDv (tVar 5) (tI 64)) (tI 69621)) (tVar 5)) (tI 4294967231)) (tI 8)) (tVar 2)))))) { nx := fun _ H' => Q .non H', rt := Q } [some v0, some (.ref t), some (.int many), some x, some y, none] H1 := by
  subst ex ey
  refine ⟨_, rfl, 10, 18, rfl, rfl, ⟨by omega, by omega, by decide⟩, rest, 10 ^ 18, rfl, rfl, _, rfl, ?_⟩
  by_cases hb : (10 : Int) ^ 18 ≤ rest
  · rw [decide_eq_true hb]
    refine iteT ?_
    rw [if_pos hb] at p
    have er : drawR (c + 1) rest many = rest % many := by unfold drawR; rw [if_pos hb]
    rw [er] at p
    refine ⟨_, rfl, _, rfl, rest, many, rfl, rfl, ⟨h1, h2⟩, ?_⟩
    refine ⟨_, rfl, t, .ref r, rfl, ?_, _, rfl, r, _, rfl, DPut.k (k := .inl at') hr ?_, ?_⟩
    · have := DGet.k (k := .inr "rests") ht
      rw [tK_rests] at this
      exact this
    · unfold rK
      rw [List.length_map, ← lim_eq]
      unfold LIM
      omega
    · refine ⟨_, rfl, _, rfl, rest, many, rfl, rfl, h1, ?_⟩
      rw [rK_put]
      obtain ⟨wf', fm⟩ := wf.town (H' := upd H1 r (.dK (rK (putI rs at' (rest / many))))) (c' := c + 1) (rs' := putI rs at' (rest / many)) hm hw (by rw [upd_ne tr]; exact ht) upd_same fun b b1 b2 => by rw [upd_ne b2]; exact ho b b1 b2
      exact p m F _ _ fm wf' (.int _)
  · rw [decide_eq_false hb]
    refine iteF ?_
    rw [if_neg hb] at p
    have er : drawR (c + 1) rest many = ((((rest + 104729 * (c + 1)) % 4294967291) ^ 5 % 4294967279) / 64 * 69621 + (((rest + 104729 * (c + 1)) % 4294967291) ^ 5 % 4294967279)) % 4294967231 / 8 % many := by unfold drawR; rw [if_neg hb]
    rw [er] at p
    generalize ha : (rest + 104729 * (c + 1)) % 4294967291 = a at p
    have a1 : 0 ≤ a := by rw [← ha]; exact Int.emod_nonneg _ (by decide)
    have a2 : a < 4294967291 := by rw [← ha]; exact Int.emod_lt_of_pos _ (by decide)
    generalize hbb : a ^ 5 % 4294967279 = b' at p
    have b1 : 0 ≤ b' := by rw [← hbb]; exact Int.emod_nonneg _ (by decide)
    have b2 : b' < 4294967279 := by rw [← hbb]; exact Int.emod_lt_of_pos _ (by decide)
    refine ⟨_, rfl, _, rfl, t, .int (c + 1), rfl, ?_, 104729, c + 1, rfl, rfl, .inl ⟨by decide, by decide⟩, rest, 104729 * (c + 1), rfl, rfl, rest + 104729 * (c + 1), 4294967291, rfl, rfl, (show (0 : Int) < 4294967291 by decide), ?_⟩
    · have := DGet.k (k := .inr "count") ht
      rw [tK_count] at this
      exact this
    refine ⟨_, rfl, a, 5, congrArg V.int ha, rfl, ⟨by omega, by omega, ?_⟩, a ^ 5, 4294967279, rfl, rfl, (show (0 : Int) < 4294967279 by decide), ?_⟩
    · have : (a.natAbs : Int) = a := by omega
      have h64 : (2 : Nat) ^ 64 = 18446744073709551616 := by decide
      rw [h64]
      omega
    refine ⟨_, rfl, b', 64, congrArg V.int hbb, rfl, ⟨by decide, by decide⟩, b' / 64, 69621, rfl, rfl, .inr ⟨by decide, by decide⟩, _, rfl, b' / 64 * 69621, b', rfl, congrArg V.int hbb, b' / 64 * 69621 + b', 4294967231, rfl, rfl, (show (0 : Int) < 4294967231 by decide), _, 8, rfl, rfl, ⟨by decide, by decide⟩, _, rfl, _, many, rfl, rfl, h1, ?_⟩
    obtain ⟨wf', fm⟩ := wf.town (H' := H1) (c' := c + 1) (rs' := rs) hm hw ht hr ho
    exact p m F _ _ fm wf' (.int _)

theorem rep3 {m : Mu} {F : Fz} {H : Hp} {vs : List V} {d0 d1 d2 : D} (r : RepAll z m F H vs [d0, d1, d2]) : ∃ v0 v1 v2, vs = [v0, v1, v2] ∧ Rep z m F H v0 d0 ∧ Rep z m F H v1 d1 ∧ Rep z m F H v2 d2 := by
  cases r with
  | cons h0 r =>
    cases r with
    | cons h1 r =>
      cases r with
      | cons h2 r =>
        cases r
        exact ⟨_, _, _, rfl, h0, h1, h2⟩
theorem at_nn {ns : List Int} {c : Int} (h : ns ≠ []) : 0 ≤ atS ns c ∧ atS ns c < ns.length ∧ (atS ns c).toNat < ns.length := by
  have hl : 0 < ns.length := List.length_pos_iff.mpr h
  unfold atS
  rw [if_neg h]
  have h1 := Int.emod_nonneg c (b := (ns.length : Int)) (by omega)
  have h2 := Int.emod_lt_of_pos c (b := (ns.length : Int)) (by omega)
  exact ⟨h1, h2, by omega⟩
theorem draw_read (N : List Str) (hN : N.length = 6) (hK : z.K = K) {vs : List V} {H : Hp} (h : spF z cl (drawP z.ns) 3 vs H Q E) : t_draw K { nx := fun _ H' => Q .non H', rt := Q } (L2.start N vs) H := by
  obtain ⟨hl, m, F, w, ds, wf, r, p⟩ := h
  have hd : ds.length = 3 := by rw [← r.length, hl]
  match ds, hd with
  | [d0, d1, d2], _ =>
  obtain ⟨v0, v1, v2, rfl, r0, r1, r2⟩ := rep3 r
  have e0 : isScr d0 = true := by
    cases q : isScr d0 with
    | true => rfl
    | false =>
      have p : Post ⟨z, cl, E, H, m, F⟩ m F H (if isScr d0 then (bnd (lift (obN d1)) fun n => bnd (lift (intD d2)) fun many => bnd (lift (townW w n)) fun p => if 0 < many ∧ many < 1073741824 ∧ p.2.length < 1000 then drawT z.ns p.1 p.2 many n else bad) w else .bad) (Rep z) Q := p
      rw [q] at p
      exact p.elim
  have p : Post ⟨z, cl, E, H, m, F⟩ m F H (if isScr d0 then (bnd (lift (obN d1)) fun n => bnd (lift (intD d2)) fun many => bnd (lift (townW w n)) fun p => if 0 < many ∧ many < 1073741824 ∧ p.2.length < 1000 then drawT z.ns p.1 p.2 many n else bad) w else .bad) (Rep z) Q := p
  rw [if_pos e0] at p
  obtain ⟨n, e1, p1⟩ := p.lift
  obtain ⟨many, e2, p2⟩ := p1.lift
  obtain ⟨⟨c, rs⟩, e3, p3⟩ := p2.lift
  have e3 := townW_some e3
  clear p p1 p2
  have ev0 := rep_scr e0 r0
  obtain ⟨t, ev1, ht⟩ := rep_ob e1 r1
  have e2 := intD_some e2
  subst e2
  have ev2 : v2 = .int many := by cases r2; rfl
  subst ev0 ev1 ev2
  by_cases hc : 0 < many ∧ many < 1073741824 ∧ rs.length < 1000
  · rw [if_pos hc] at p3
    obtain ⟨h1, h2, h3⟩ := hc
    obtain ⟨r, hm, h4, h5, tr⟩ := town_at wf ht e3
    obtain ⟨wf1, fm1⟩ := wf.town (H' := upd H t (.dK (tK (c + 1) r))) (c' := c + 1) (rs' := rs) hm e3 upd_same (by rw [upd_ne (Ne.symm tr)]; exact h5) fun b b1 b2 => by rw [upd_ne b1]
    have sq : SqL K (upd H t (.dK (tK (c + 1) r))) z.sa (z.ns.map V.int) := hK ▸ wf1.sq
    have es : L2.start N [.ref z.sa, .ref t, .int many] = [some (.ref z.sa), some (.ref t), some (.int many), none, none, none] := by
      unfold L2.start
      rw [hN]
      rfl
    rw [es]
    have g1 : DGet H t (.str "count") (some (.int c)) := by
      have := DGet.k (k := .inr "count") h4
      rw [tK_count] at this
      exact this
    have g2 : DGet (upd H t (.dK (tK (c + 1) r))) t (.str "count") (some (.int (c + 1))) := by
      have := DGet.k (H := upd H t (.dK (tK (c + 1) r))) (k := .inr "count") upd_same
      rw [tK_count] at this
      exact this
    have g3 : DGet (upd H t (.dK (tK (c + 1) r))) t (.str "rests") (some (.ref r)) := by
      have := DGet.k (H := upd H t (.dK (tK (c + 1) r))) (k := .inr "rests") upd_same
      rw [tK_rests] at this
      exact this
    have hr1 : upd H t (.dK (tK (c + 1) r)) r = some (.dK (rK rs)) := by rw [upd_ne (Ne.symm tr)]; exact h5
    have put : DPut H t (.str "count") (.int (c + 1)) (upd H t (.dK (tK (c + 1) r))) := by
      have := DPut.k (k := .inr "count") (v := .int (c + 1)) h4 (by rw [← lim_eq]; show 2 < LIM; decide)
      rw [tK_put] at this
      exact this
    refine ⟨_, rfl, t, .int c, rfl, g1, c, 1, rfl, rfl, _, rfl, t, _, rfl, put, ?_⟩
    have tail' : ∀ x y, x = V.int (atS z.ns (c + 1)) → y = V.int (restI z.ns rs (atS z.ns (c + 1))) → _ := fun x y => draw_tail (v0 := .ref z.sa) (x := x) (y := y) (H1 := upd H t (.dK (tK (c + 1) r))) hK wf hm e3 tr upd_same hr1 (fun b b1 b2 => by rw [upd_ne b1]) h1 h2 h3 p3
    have tru : TruV K (.ref z.sa) (upd H t (.dK (tK (c + 1) r))) (!(z.ns.map V.int).isEmpty) := .inl ⟨_, sq, rfl⟩
    have gr : DGet (upd H t (.dK (tK (c + 1) r))) r (.int (atS z.ns (c + 1))) ((lookI rs (atS z.ns (c + 1))).map V.int) := by
      have := DGet.k (k := .inl (atS z.ns (c + 1))) hr1
      rw [rK_val] at this
      exact this
    have gd : ∀ x : Int, ((lookI rs (atS z.ns (c + 1))).map V.int).getD (.int x) = .int ((lookI rs (atS z.ns (c + 1))).getD x) := fun x => by cases lookI rs (atS z.ns (c + 1)) <;> rfl
    by_cases hns : z.ns = []
    · have ea : atS z.ns (c + 1) = 0 := by unfold atS; rw [if_pos hns]
      have k0 : (!(z.ns.map V.int).isEmpty) = false := by rw [hns]; rfl
      rw [k0] at tru
      refine ⟨_, rfl, false, tru, iteF ?_⟩
      refine ⟨_, rfl, t, .ref r, rfl, g3, r, rfl, .inl ⟨_, .inl hr1⟩, _, rfl, _, rfl, false, tru, iteF ⟨_, ea ▸ gr, ?_⟩⟩
      have ex : ((lookI rs 0).map V.int).getD (.int 0) = .int (restI z.ns rs (atS z.ns (c + 1))) := by
        unfold restI
        rw [if_pos hns, ← gd, ea]
      exact tail' _ _ (congrArg V.int ea.symm) ex
    · obtain ⟨a1, a2, a3⟩ := at_nn (c := c + 1) hns
      have k0 : (!(z.ns.map V.int).isEmpty) = true := by
        cases q : z.ns with
        | nil => exact absurd q hns
        | cons x l => rfl
      rw [k0] at tru
      have hlen : (0 : Int) < ((z.ns.map V.int).length : Nat) := by
        rw [List.length_map]
        have := List.length_pos_iff.mpr hns
        omega
      refine ⟨_, rfl, true, tru, iteT ⟨_, rfl, t, .int (c + 1), rfl, g2, _, rfl, _, _, rfl, .inl ⟨_, sq, rfl⟩, c + 1, _, rfl, rfl, hlen, ?_⟩⟩
      have ea : (c + 1) % (((z.ns.map V.int).length : Nat) : Int) = atS z.ns (c + 1) := by
        unfold atS
        rw [if_neg hns, List.length_map]
      have hat : atI (z.ns.map V.int) (atS z.ns (c + 1)) = some (.int (z.ns.getD (atS z.ns (c + 1)).toNat 0)) := by
        have e : (((atS z.ns (c + 1)).toNat : Nat) : Int) = atS z.ns (c + 1) := by omega
        rw [← e]
        refine atI_nat ?_
        rw [List.getElem?_map, List.getD_eq_getElem?_getD, Int.toNat_natCast, List.getElem?_eq_getElem a3]
        rfl
      refine ⟨_, rfl, t, .ref r, rfl, g3, r, rfl, .inl ⟨_, .inl hr1⟩, _, rfl, _, rfl, true, tru, iteT ⟨_, rfl, _, rfl, z.sa, _, _, _, rfl, congrArg V.int ea, sq, hat, _, ea ▸ gr, ?_⟩⟩
      have ex : ((lookI rs (atS z.ns (c + 1))).map V.int).getD (.int (z.ns.getD (atS z.ns (c + 1)).toNat 0)) = .int (restI z.ns rs (atS z.ns (c + 1))) := by
        unfold restI
        rw [if_neg hns, gd]
      exact tail' _ _ (congrArg V.int ea) (by rw [ea]; exact ex)
  · rw [if_neg hc] at p3
    exact p3.elim

/-! ### a new town -/
def t_begun : TS := tRet (tDisp [(tS "count", tI 0), (tS "rests", tDNewK)])
theorem begun_read (N : List Str) {vs : List V} {H : Hp} (h : spF z cl begunP 0 vs H Q E) : t_begun { nx := fun _ H' => Q .non H', rt := Q } (L2.start N vs) H := by
  obtain ⟨hl, m, F, w, ds, wf, r, p⟩ := h
  have hd : ds.length = 0 := by rw [← r.length, hl]
  match ds, hd with
  | [], _ =>
  have p : Post ⟨z, cl, E, H, m, F⟩ m F H (begunW w) (Rep z) Q := p
  unfold begunW at p
  split at p
  · rename_i wr
    have lm := wf.len
    cases m with
    | nil => simp at lm
    | cons a0 mr =>
    have e0 : a0 = [] := wf.obj 0 a0 .non rfl rfl
    subst e0
    intro a ha q hq
    have nq : q ≠ a := fun e => by
      rw [e, upd_same] at hq
      cases hq
    have hq' : H q = none := by
      rw [upd_ne nq] at hq
      exact hq
    refine ⟨?_, [(.inr "count", .int 0), (.inr "rests", .ref q)], rfl, (show 2 ≤ 15 by decide), ?_⟩
    · rw [upd_ne (Ne.symm nq), upd_same]
    have em : mergeK [] [(.inr "count", V.int 0), (.inr "rests", .ref q)] = tK 0 q := by
      have ne : (Sum.inr ("count" : Str) : Key) ≠ Sum.inr ("rests" : Str) := by decide
      show putK (putK [] (.inr "count") (.int 0)) (.inr "rests") (.ref q) = tK 0 q
      have e1 : putK ([] : List (Key × V)) (.inr "count") (.int 0) = [(.inr "count", .int 0)] := rfl
      rw [e1]
      unfold putK
      rw [if_neg (by simpa using ne)]
      rfl
    rw [em]
    generalize hH : upd (upd (upd H a (.dK [])) q (.dK [])) a (.dK (tK 0 q)) = H'
    have h1 : H' a = some (.dK (tK 0 q)) := by rw [← hH]; exact upd_same
    have h2 : H' q = some (.dK []) := by rw [← hH, upd_ne nq, upd_same]
    have ho : ∀ b, b ≠ a → b ≠ q → H' b = H b := fun b b1 b2 => by rw [← hH, upd_ne b1, upd_ne b2, upd_ne b1]
    have old : ∀ b o, H b = some o → H' b = some o := fun b o e => by
      rw [ho b (ne_of_none e ha) (ne_of_none e hq')]
      exact e
    have fl : ([a, q] :: mr).flatten = a :: q :: ([] :: mr : Mu).flatten := by rw [List.flatten_cons, List.flatten_cons]; rfl
    have na := wf_new wf ha
    have nq' := wf_new wf hq'
    refine p ([a, q] :: mr) F H' (.ref a) ⟨fun b o e _ => old b o e, fun b o e => ⟨o, old b o e⟩, fun b hb => ?_, fun n b hb => ?_, fun _ h => h, fun _ h => .inl h⟩ ⟨?_, fun n as mo e1 e2 => ?_, ?_, fun b hb hF => ?_, fun b hF => ?_, fun b hb => ?_, ?_, fun i p e => wf.tab i p e⟩ (.ob rfl)
    · rw [fl] at hb
      rcases List.mem_cons.mp hb with e | hb
      · exact .inr (e ▸ ha)
      · rcases List.mem_cons.mp hb with e | hb
        · exact .inr (e ▸ hq')
        · exact .inl hb
    · cases n with
      | zero => cases (show none = some b from hb)
      | succ n => exact hb
    · exact lm
    · cases n with
      | zero =>
        cases e1
        cases e2
        exact ⟨a, q, rfl, h1, h2⟩
      | succ n => exact (wf.obj (n + 1) as mo e1 e2).fm (fun b o _ e => old b o e) (fun _ h => h) fun b o _ e => old b o e
    · rw [fl]
      refine List.nodup_cons.mpr ⟨fun hm => ?_, List.nodup_cons.mpr ⟨nq'.2, wf.nd⟩⟩
      rcases List.mem_cons.mp hm with e | hm
      · exact nq e.symm
      · exact na.2 hm
    · rw [fl] at hb
      rcases List.mem_cons.mp hb with e | hb
      · exact na.1 (e ▸ hF)
      · rcases List.mem_cons.mp hb with e | hb
        · exact nq'.1 (e ▸ hF)
        · exact wf.nF b hb hF
    · obtain ⟨o, e⟩ := wf.dom b hF
      exact ⟨o, old b o e⟩
    · rw [fl] at hb
      rcases List.mem_cons.mp hb with e | hb
      · exact ⟨_, e ▸ h1⟩
      · rcases List.mem_cons.mp hb with e | hb
        · exact ⟨_, e ▸ h2⟩
        · obtain ⟨o, e⟩ := wf.mdom b hb
          exact ⟨o, old b o e⟩
    · exact wf.scr.imp (fun ⟨h1, h2⟩ => ⟨h1, Rd.keep h2 fun o h => old _ o h⟩) id
  · exact p.elim
end

/-! ### a primitive, from its text -/
section
variable {P : Program} {w : World} {K : PySem.W.Frag} {mg : Str → Option Value} {base : Heap}
theorem prim_ok {T : Tb} {fd : Nat → FuncData} {ca : Nat → Addr} {z : Zt} {cl : Nat → Value} {cf : CF} {k : Nat} (hw : z.wd = w) (A0 : Fx T fd ca z cl K mg) (IH : ∀ j, j < T.fn.length → FnOk P w K mg base (L2.CX P w) k (z.fa j) (fd j) (T.ps j) (spF z cl (cf j) (T.ps j).length))
    {x : Str} {st : Stmt} {f : Addr} {fdat : FuncData} {N ps : List Str} {pr : List D → M D} {t : TS} (F : FunD K x x (defArgs st) (defBody st) (defScope st) [] [] f fdat) (hs : scB N ps (defScope st) ⟨ps.length, N.length, .nil⟩ = true)
    (hb : ∀ (X : Cx) (b : Bx), X.K = K → Ok T fd ca b cf k X N (defScope st) (fun _ => true) → PassesOwn (model X.prog X.w) X.A X.env X.xe → PSs X (defBody st) t)
    (hr : ∀ (vs : List V) (H : Hp) (Q : VK) (E : XK), spF z cl pr ps.length vs H Q E → t { nx := fun _ H' => Q .non H', rt := Q } (L2.start N vs) H) :
    FnOk P w K mg base (L2.CX P w) (k + 3) f fdat ps (spF z cl pr ps.length) := by
  simp only [scB, Bool.and_eq_true, decide_eq_true_eq, Bool.not_eq_true'] at hs
  obtain ⟨⟨⟨⟨⟨⟨⟨⟨⟨h1, h2⟩, h3⟩, h4⟩, h5⟩, h6⟩, h7⟩, h8⟩, h9⟩, h10⟩ := hs
  have hkd : (defScope st).kind = .function := by
    split at h8
    · assumption
    · cases h8
  have S : FnScope N ps (defScope st) := ⟨hkd, h9, h10, h1, h2, fun y hy => loc_of (List.all_eq_true.mp h3 y hy), fun y hy e => by
    have := List.all_eq_true.mp h4 y hy
    rw [e] at this
    cases this⟩
  refine F.ok S (fun vs H Q E h => h.1) fun cdv A outer s H vs Q E hr' h => ?_
  have O : Ok T fd ca (⟨z, cl, E, H, [], fun _ => False⟩ : Bx) cf k (cxOf (L2.CX P w) P w K mg base N x (defScope st) f cdv A outer s H E) N (defScope st) (fun _ => true) :=
    { eN := rfl, nd := h1, esc := rfl, kd := hkd, efv := rfl, calm := rfl, room := hr'.mono (Nat.le_add_right _ _), ew := hw, tk := takes_of rfl rfl rfl rfl, fns := IH, mgf := A0.mgf, kp := A0.kp, bd := A0.bd, kb := A0.kb, bl := A0.bl, gi := A0.gi, ex := A0.ex }
  exact ⟨t, hb _ _ rfl O (passes_of rfl), hr vs H Q E h⟩
end
section
variable {T : Tb} {fd : Nat → FuncData} {ca : Nat → Addr} {b : Bx} {cf : CF} {k fu : Nat} {X : Cx} {N : List Str} {sc : Scope} {fv : Str → Bool} (O : Ok T fd ca b cf k X N sc fv)
include O
theorem v_ {i : Nat} {x : Str} {pos : Pos} (h : vB N sc i x = true := by decide +kernel) : PE X (.Name x pos) (tVar i) := pe_var (O.v h).1 (O.v h).2.1 (O.v h).2.2.1 (O.v h).2.2.2
theorem as_ {i : Nat} {y : Str} {py pos : Pos} {e : Expr} {te : TE} (he : PE X e te) (h : tB N sc fv i y = true := by decide +kernel) (hn : notComp e = true := by rfl) : PS X (.Assign [.Name y py] e pos) (tAsg te (gName i)) :=
  ps_set (O.t h).1 (O.t h).2.1 (O.t h).2.2.1 he (swaps_no hn) (O.t h).2.2.2
theorem len_ {e : Expr} {te : TE} {p1 pos : Pos} (he : PE X e te) (h : bB T sc "len" = true := by decide +kernel) (hs : notStar e = true := by rfl) : PE X (.Call (.Name "len" p1) [e] [] pos) (tLn X.K te) :=
  pe_callB call_len (O.blt h).1 (O.blt h).2.1 rfl (pa_cons he pa_nil (star_cons hs)) (O.blt h).2.2.2 (O.blt h).2.2.1 (star_cons hs) rfl
theorem Ok.u1 : X.A.units + 1 < cLine := by have := O.un; omega
end
end Ev

set_option Elab.async false
set_option linter.all false
set_option maxRecDepth 100000
set_option autoImplicit false
/-! EvSort: sorted(d.items()). -/
namespace Ev
open PySem PySem.Spec PyProof.Rows L2
/-! ### several new objects at once -/
section
variable {z : Zt} {m : Mu} {F S : Fz} {w : W} {H H' : Hp}
theorem Fm.many (hk : ∀ b o, H b = some o → H' b = some o) (hn : ∀ b, S b → H b = none) : Fm m F H m (fun b => F b ∨ S b) H' :=
  ⟨fun b o e _ => hk b o e, fun b o e => ⟨o, hk b o e⟩, fun _ h => .inl h, fun _ _ h => h, fun _ h => .inl h, fun b h => h.imp id (hn b)⟩
theorem Wf.many (wf : Wf z m F w H) (hk : ∀ b o, H b = some o → H' b = some o) (hn : ∀ b, S b → H b = none) (hs : ∀ b, S b → ∃ o, H' b = some o) : Wf z m (fun b => F b ∨ S b) w H' :=
  wf.more (fun _ h => .inl h) hk fun b h => by
    rcases h with h | h
    · obtain ⟨o, e⟩ := wf.dom b h
      exact ⟨.inl h, o, hk b o e⟩
    · exact ⟨.inr (.inl (hn b h)), hs b h⟩
end
theorem paired_zip {α β : Type} {R : α → β → Prop} : ∀ {as : List α} {bs : List β}, as.length = bs.length → (∀ (j : Nat) a b, as[j]? = some a → bs[j]? = some b → R a b) → PySem.W.EachIs (fun u (p : α × β) => R u p.2) as (as.zip bs)
  | [], [], _, _ => .nil
  | [], _ :: _, h, _ => by cases h
  | _ :: _, [], h, _ => by cases h
  | a :: as, b :: bs, h, k => .cons (k 0 a b rfl rfl) (paired_zip (Nat.succ.inj h) fun j x y e1 e2 => k (j + 1) x y e1 e2)
theorem dataLt_refs : True := trivial
section
variable {X : Cx} {b : Bx} {pins : List (Addr × Obj)} {σ : L2.St} {s : Shared}
/-- all keys and values are ints -/
theorem ints_kv {z : Zt} {m : Mu} {F : Fz} {H : Hp} : ∀ {ks : List (Key × V)} {kvs : List (D × D)}, RepKV z m F H ks kvs → (∀ p ∈ kvs, isInt p.1 = true ∧ isInt p.2 = true) → ∃ ps : List (Int × Int), ks = ps.map (fun p => (.inl p.1, .int p.2)) ∧ kvs = ps.map fun p => (.int p.1, .int p.2)
  | _, _, .nil, _ => ⟨[], rfl, rfl⟩
  | _, _, .cons (k := k) (v := v) (d := d) h t, hh => by
    obtain ⟨ps, e1, e2⟩ := ints_kv t fun p hp => hh p (List.mem_cons_of_mem _ hp)
    obtain ⟨h1, h2⟩ := hh _ List.mem_cons_self
    cases k with
    | inr x => cases h1
    | inl i =>
      cases d with
      | int j =>
        cases h
        exact ⟨(i, j) :: ps, by rw [e1]; rfl, by rw [e2]; rfl⟩
      | _ => cases h2
def prD (p : Int × Int) : D := .tuple [.int p.1, .int p.2]
theorem alike_pr (p q : Int × Int) : PySem.W.alike (prD p) (prD q) = true := rfl
theorem sitems_core (hc : X.calm = true) (hu : X.A.units + 66 < cLine) {H : Hp} {Q : VK} {m : Mu} {F : Fz} {w : W} {d r : Addr} {ps : List (Int × Int)} (I : Inv X pins σ H s) (wf : Wf b.z m F w H) (hd : Rd H d (.dK (ps.map fun p => (.inl p.1, .int p.2)))) (view : s.heap.IsItemsView r d)
    (p : Post b m F H (.ok (.list (sortD (ps.map prD))) w) (Rep b.z) Q) : wpAny (model X.prog X.w) X.A (call (.builtin "sorted") [.ref r]) (EP X pins σ Q) X.xe s := by
  obtain ⟨hz, _, vs, kv, hdo⟩ := dk_rd I.hok hd
  rw [List.length_map] at hz
  obtain ⟨ep, hat⟩ := hdo.dictAt
  obtain ⟨es, hraw, hes, hent⟩ := PySem.Heap.DictAt.raw hat
  have lk : ps.length = vs.length := by
    have := Paired.length kv
    rw [List.length_map] at this
    exact this
  have hh : X.A.handled = none := I.ok.hd hc
  refine DT.sortedI (es := es) (ep := ep) hh view hraw (by omega) fun h' tk as hk hlt hl hG => ?_
  have lap : as.length = ps.length := by omega
  have nd : as.Nodup := List.Pairwise.imp (fun h => Nat.ne_of_lt h) hG.rise
  -- the pairs that were made
  have pr : ∀ (j : Nat) (a : Addr), as[j]? = some a → ∃ (q : Int × Int) (t1 t2 : Tok), ps[j]? = some q ∧ h'.get? a = some { cls := .type "tuple", data := .seq #[Value.int q.1 t1, Value.int q.2 t2] } := by
    intro j a hj
    obtain ⟨en, he, hg⟩ := hG.pairs j a hj
    have hjl : j < ps.length := by
      have := (List.getElem?_eq_some_iff.mp hj).1
      omega
    have hpj : ps[j]? = some ps[j] := List.getElem?_eq_getElem hjl
    have hkj : (ps.map fun p => ((.inl p.1, .int p.2) : Key × V))[j]? = some (.inl ps[j].1, .int ps[j].2) := by rw [List.getElem?_map, hpj]; rfl
    obtain ⟨kv', hv1, hv2⟩ := LiI.paired_get kv hkj
    have hje : j < es.size := by omega
    obtain ⟨k1, k2⟩ := hent j hje kv'.1 kv'.2 hv1
    have een : es[j] = en := Option.some.inj ((Array.getElem?_eq_getElem hje).symm.trans he)
    rw [een] at k1 k2
    obtain ⟨e1, e2⟩ := hv2
    have e1 : Sum.inl ps[j].1 = kv'.1 := e1
    rw [← e1] at k1
    rcases keyIs_shape (show keyIs (.inl ps[j].1) en.key = true from k1) with ⟨i, t, ei, ev⟩ | ⟨x, t, ei, _⟩
    · cases ei
      obtain ⟨t2, e3⟩ := (show RelV (.int ps[j].2) kv'.2 from e2)
      refine ⟨ps[j], t, t2, hpj, ?_⟩
      rw [hg, ev, k2, e3]
    · cases ei
  -- the heap of the sort
  have hob : (h'.push { cls := .type "list", data := .seq (as.map Value.ref).toArray }).get? h'.objs.size = some (seqObj "list" (as.map Value.ref).toArray 0) := Heap.get?_push_size _ rfl
  have kb : ∀ c o, s.heap.get? c = some o → (h'.push { cls := .type "list", data := .seq (as.map Value.ref).toArray }).get? c = some o := fun c o e => Heap.get?_push_of_some _ (hk c o e)
  have ne0 : ∀ c o, h'.get? c = some o → c ≠ h'.objs.size := fun c o e => Nat.ne_of_lt (Heap.lt_size e)
  have ka : ∀ c o, h'.get? c = some o → (h'.push { cls := .type "list", data := .seq (as.map Value.ref).toArray }).get? c = some o := fun c o e => Heap.get?_push_of_some _ e
  generalize h'.push { cls := .type "list", data := .seq (as.map Value.ref).toArray } = h2 at hob kb ka ⊢
  have each : PySem.W.EachIs (fun u (q : Addr × (Int × Int)) => u = Value.ref q.1 ∧ q ∈ as.zip ps) (as.map Value.ref) (as.zip ps) := by
    have key : ∀ (as : List Addr) (ps : List (Int × Int)), as.length = ps.length → PySem.W.EachIs (fun u (q : Addr × (Int × Int)) => u = Value.ref q.1) (as.map Value.ref) (as.zip ps) := by
      intro as
      induction as with
      | nil => intro ps h; cases ps with
        | nil => exact .nil
        | cons _ _ => cases h
      | cons a as ih => intro ps h; cases ps with
        | nil => cases h
        | cons q ps => exact .cons rfl (ih ps (Nat.succ.inj h))
    exact (PySem.W.each_mem (key as ps lap)).mono fun u q ⟨h1, h2⟩ => ⟨h1, h2⟩
  have er : PySem.W.EachIs (fun u (q : Addr × (Int × Int)) => ∃ as', Reads h2 u (prD q.2) as' ∧ h'.objs.size ∉ as') (as.map Value.ref) (as.zip ps) := by
    refine each.mono fun u q ⟨h1, h2'⟩ => ?_
    subst h1
    obtain ⟨j, hj⟩ := List.mem_iff_getElem?.mp h2'
    obtain ⟨j1, j2⟩ := List.getElem?_zip_eq_some.mp hj
    obtain ⟨q', t1, t2, e1, e2⟩ := pr j q.1 j1
    have eq : q' = q.2 := Option.some.inj (e1.symm.trans j2)
    subst eq
    refine ⟨[], .tuple (ka _ _ e2) rfl rfl ?_, by simp⟩
    exact .cons (as := []) (bs := []) (.int _ _) (.cons (as := []) (bs := []) (.int _ _) .nil)
  refine PySem.W.list_sort_data (s := { s with heap := h2, toks := tk }) (A := X.A.in1) (enc := fun q : Addr × (Int × Int) => prD q.2) hob each er ?_ ?_ ?_ ?_ fun out hlen ho => ?_
  · intro x hx y hy
    obtain ⟨q, _, rfl⟩ := List.mem_map.mp hx
    obtain ⟨q', _, rfl⟩ := List.mem_map.mp hy
    exact alike_pr _ _
  · refine .inl fun x hx => ?_
    obtain ⟨q, _, rfl⟩ := List.mem_map.mp hx
    exact ⟨_, _, rfl⟩
  · rw [List.length_zip]; omega
  · intro q _
    show X.A.units + 1 + 1 + 1 < cLine
    omega
  · -- behind the sort
    generalize hms : (as.zip ps).mergeSort (PySem.W.dataLe false fun q : Addr × (Int × Int) => prD q.2) = zs at ho
    have hmem : ∀ q ∈ zs, q ∈ as.zip ps := fun q hq => by rw [← hms] at hq; exact List.mem_mergeSort.mp hq
    have hzl : zs.length = ps.length := by
      rw [← hms, List.length_mergeSort, List.length_zip]
      omega
    have hdata : zs.map (fun q => prD q.2) = sortD (ps.map prD) := by
      rw [sortD_merge, ← hms]
      have e0 : ps.map prD = (as.zip ps).map fun q => prD q.2 := by
        have : (as.zip ps).map (·.2) = ps := List.map_snd_zip (by omega)
        rw [show ((as.zip ps).map fun q => prD q.2) = ((as.zip ps).map (·.2)).map prD by rw [List.map_map]; rfl, this]
      rw [e0]
      exact PySem.W.sort_maps (fun q : Addr × (Int × Int) => prD q.2) fun _ _ _ _ => rfl
    have hout : out = zs.map fun q => Value.ref q.1 := by
      have key : ∀ {us : List Value} {l : List (Addr × (Int × Int))}, PySem.W.EachIs (fun u (q : Addr × (Int × Int)) => u = Value.ref q.1 ∧ q ∈ as.zip ps) us l → us = l.map fun q => Value.ref q.1 := by
        intro us l h
        induction h with
        | nil => rfl
        | cons h _ ih => rw [List.map_cons, ← ih, h.1]
      exact key ho
    have kF : ∀ c o, c ≠ h'.objs.size → h2.get? c = some o → (sortedHeap h2 h'.objs.size (as.map Value.ref) (List.toArray out)).get? c = some o := fun c o hc e => (PyProof.Rows.sortedHeap_old hc (Heap.lt_size e)).trans e
    have kS : ∀ c o, s.heap.get? c = some o → (sortedHeap h2 h'.objs.size (as.map Value.ref) (List.toArray out)).get? c = some o := fun c o e => kF c o (ne0 _ _ (hk c o e)) (kb c o e)
    obtain ⟨eF, heF⟩ := PyProof.Rows.sortedHeap_at (vs := as.map Value.ref) (out := List.toArray out) hob
    have I1 : Inv X pins σ H { s with heap := sortedHeap h2 h'.objs.size (as.map Value.ref) (List.toArray out), toks := tk } := I.kept (t' := tk) kS
    have hn0 : H h'.objs.size = none := I.hok.fresh (Nat.le_of_lt hlt)
    have rv : Vals (zs.map fun q => V.ref q.1) out := by
      rw [hout]
      have key : ∀ l : List (Addr × (Int × Int)), Vals (l.map fun q => V.ref q.1) (l.map fun q => Value.ref q.1) := by
        intro l
        induction l with
        | nil => exact .nil
        | cons q l ih => exact .cons rfl ih
      exact key zs
    have I2 : Inv X pins σ (upd H h'.objs.size (.lst (zs.map fun q => V.ref q.1))) { s with heap := sortedHeap h2 h'.objs.size (as.map Value.ref) (List.toArray out), toks := tk } :=
      I1.take (h' := sortedHeap h2 h'.objs.size (as.map Value.ref) (List.toArray out)) (t' := tk) (fun c ob _ e => e) (I.fpOk (Nat.le_of_lt hlt) hn0) ⟨by rw [List.length_map]; omega, out, eF, rv, by simpa using heF⟩
    obtain ⟨H2, I3, g, qt⟩ := L2.DX.takeT (P := fun a vs => ∃ (j : Nat) (q : Int × Int), as[j]? = some a ∧ ps[j]? = some q ∧ vs = [.int q.1, .int q.2]) I as _ I2 nd fun a ha => by
      obtain ⟨j, hj⟩ := List.mem_iff_getElem?.mp ha
      obtain ⟨q, t1, t2, e1, e2⟩ := pr j a hj
      have hal : s.heap.objs.size ≤ a := Nat.le_of_lt (hG.above a ha)
      refine ⟨hal, ?_, [.int q.1, .int q.2], ⟨j, q, hj, e1, rfl⟩, fun H3 => ⟨(by rw [sizeLine_eq]; show 2 ≤ 16777216; omega), [Value.int q.1 t1, Value.int q.2 t2], .cons ⟨_, rfl⟩ (.cons ⟨_, rfl⟩ .nil), ⟨_, kF _ _ (ne0 _ _ e2) (ka _ _ e2), rfl, 0, rfl⟩⟩⟩
      rw [upd_ne (ne0 _ _ e2)]
      exact I.hok.fresh hal
    have gr : ∀ c o, H c = some o → H2 c = some o := fun c o e => g c o (by rw [upd_ne (ne_of_none e hn0)]; exact e)
    have hL : H2 h'.objs.size = some (.lst (zs.map fun q => V.ref q.1)) := g _ _ upd_same
    have hT : ∀ q ∈ zs, H2 q.1 = some (.tup [.int q.2.1, .int q.2.2]) ∧ q.1 ∈ as := fun q hq => by
      obtain ⟨j, hj⟩ := List.mem_iff_getElem?.mp (hmem q hq)
      obtain ⟨j1, j2⟩ := List.getElem?_zip_eq_some.mp hj
      obtain ⟨vs', ⟨i, q', i1, i2, ev⟩, hH⟩ := qt q.1 (List.mem_of_getElem? j1)
      have eij : i = j := (List.getElem?_inj (List.getElem?_eq_some_iff.mp i1).1 nd).mp (i1.trans j1.symm)
      subst eij
      have ee : q' = q.2 := Option.some.inj (i2.symm.trans j2)
      rw [ev, ee] at hH
      exact ⟨hH, List.mem_of_getElem? j1⟩
    refine ⟨.ref h'.objs.size, H2, I3, rfl, ?_⟩
    have hn : ∀ c, (c = h'.objs.size ∨ c ∈ as) → H c = none := fun c hc => by
      rcases hc with e | hc
      · exact e ▸ hn0
      · exact I.hok.fresh (Nat.le_of_lt (hG.above c hc))
    refine p m _ H2 _ (Fm.many gr hn) (wf.many gr hn fun c hc => ?_) ?_
    · rcases hc with e | hc
      · exact ⟨_, e ▸ hL⟩
      · obtain ⟨vs', _, hH⟩ := qt c hc
        exact ⟨_, hH⟩
    · rw [← hdata]
      refine .lst (.inr (.inl rfl)) hL ?_
      have key : ∀ l : List (Addr × (Int × Int)), (∀ q ∈ l, H2 q.1 = some (.tup [.int q.2.1, .int q.2.2]) ∧ q.1 ∈ as) → RepAll b.z m (fun c => F c ∨ c = h'.objs.size ∨ c ∈ as) H2 (l.map fun q => V.ref q.1) (l.map fun q => prD q.2) := by
        intro l
        induction l with
        | nil => intro _; exact .nil
        | cons q l ih =>
          intro hl
          obtain ⟨t1, t2⟩ := hl q List.mem_cons_self
          exact .cons (.tup (.inr (.inr t2)) t1 (.cons (.int _) (.cons (.int _) .nil))) (ih fun q' hq' => hl q' (List.mem_cons_of_mem _ hq'))
      exact key zs hT
end
section
variable {T : Tb} {fd : Nat → FuncData} {ca : Nat → Addr} {b : Bx} {cf : CF} {k fu : Nat} {X : Cx} {N : List Str} {sc : Scope} {fv : Str → Bool} (O : Ok T fd ca b cf k X N sc fv)
include O
variable {x : Str} {ca1 : E} {p1 p2 pos apos cpos : Pos}
theorem g_sitems (ha : PE X (.Name x p1) (rR b (evE cf ca1))) (h : bB T sc "sorted" = true := by decide +kernel) (hline : (apos.endLine == cpos.line) = true := by rfl) :
    PE X (.Call (.Name "sorted" p2) [.Call (.Attribute (.Name x p1) "items" apos) [] [] cpos] [] pos) (rE b (evE cf (.bi .sitems ca1))) := by
  have hs : starEach [.Call (.Attribute (.Name x p1) "items" apos) [] [] cpos] X.env = (false, eval (.Call (.Attribute (.Name x p1) "items" apos) [] [] cpos) X.env) :: starEach [] X.env := rfl
  refine ⟨fun pins s σ H Q I hq => ?_⟩
  obtain ⟨m, F, s', w, wf, sl, p⟩ := hq
  have p : Post b m F H (bnd (evE cf ca1 s') (fun x => lift (biD .sitems x)) w) (Rep b.z) Q := by simpa only [evE] using p
  refine wpAny_Call_Name_kw (ld_blt I (O.blt h).1 (O.blt h).2.1 rfl ?_ (by decide) (by decide))
  refine PyProof.Rows.callWith_builtin1 ?_ hs rfl
  rw [hs]
  show wpAny _ _ (spliced ((false, eval (.Call (.Attribute (.Name x p1) "items" apos) [] [] cpos) X.env) :: backTo pos (starEach [] X.env))) _ _ s
  refine Calls.spliced_cons ?_
  refine wpAny_Call_method (T := "dict") (id := "dict.items") rfl rfl hline PySem.F.plainAttrs_dict PySem.F.slot_dict_items PySem.F.type_dict_items (thn (ha.run pins s σ H _ I ⟨m, F, s', w, wf, sl, p.bind⟩) fun u s1 ⟨xv, H1, I1, rx, m1, F1, d, w1, f1, wf1, r1, p1⟩ => ?_)
  have p1 : Post b m1 F1 H1 (lift (sitemsD d) w1) (Rep b.z) Q := p1
  obtain ⟨d', e, p2⟩ := p1.lift1
  unfold sitemsD at e
  split at e
  · rename_i kvs
    split at e
    · rename_i hc
      cases e
      simp only [Bool.and_eq_true, List.all_eq_true, decide_eq_true_eq] at hc
      obtain ⟨hc1, hc2⟩ := hc
      obtain ⟨da, ks, rfl, hd, hr⟩ := r1.dict (List.all_eq_true.mpr fun q hq => by
        have := (hc1 q hq).1
        cases q1 : q.1 with
        | int i => rfl
        | _ => rw [q1] at this; cases this)
      obtain ⟨ps, e1, e2⟩ := ints_kv hr hc1
      subst e1 e2
      obtain rfl : u = Value.ref da := rx
      obtain ⟨hz, hs0, vs, kv, hdo⟩ := dk_rd I1.hok hd
      obtain ⟨ep, hat⟩ := hdo.dictAt
      have I2 : Inv X pins σ H1 { s1 with heap := s1.heap.push { cls := .type "dict_items", data := .fields #[.ref da] } } := I1.kept (t' := s1.toks) fun c ob q => Heap.get?_push_of_some _ q
      refine ⟨hdo.typeIs, hdo.mapOf.noDict, ?_⟩
      show wpAny _ _ (callWith cpos (.builtin "dict.items") [.ref da] [] []) _ X.xe s1
      refine method_meetsIn PySem.F.slot_dict_items PySem.F.entry_dict_items rfl (PySem.evalArgs_none ⟨rfl, hdo.typeIs, PySem.F.args_dict_items_1 _, _, meets_dict_items (mixKind X.prog X.w) da hs0, ⟨vs, hdo⟩, ?_⟩)
      refine Calls.spliced_nil ?_
      refine sitems_core O.calm (by have := O.un; omega) I2 wf1 hd ⟨_, Heap.get?_push_size _ rfl, rfl, rfl⟩ ?_
      rw [List.map_map] at p2
      exact p2
    · cases e
  · cases e
end
end Ev

set_option Elab.async false
set_option linter.all false
set_option maxRecDepth 100000
set_option autoImplicit false
/-! EvSet: sorted(set(xs)), xs a list of nested tuples of ints. Over the library's set table (HandS.TupSets), which is told there for flat tuples. -/
namespace Ev
open PySem PySem.Spec PyProof.Rows L2
/-! ### keys of ints alone -/
mutual
def onlyN : NestedKey → Bool
  | .num _ => true
  | .tup ks => onlyNs ks
  | _ => false
def onlyNs : List NestedKey → Bool
  | [] => true
  | k :: ks => onlyN k && onlyNs ks
end
/-- the key at an address -/
structure IsK (h : Heap) (k : NestedKey) (a : Addr) : Prop where
  is : NestedIs h k (.ref a)
  dp : k.depth ≤ 8
  on : onlyN k = true
section
variable {P : Program} {w : World} {A : Around} {E : Value → Shared → Prop} {s : Shared}
theorem IsK.hk {h : Heap} {k : NestedKey} {a : Addr} (x : IsK h k a) : (nestedKind P w).is h k a := ⟨x.is, x.dp⟩
theorem IsK.at {h h' : Heap} {k : NestedKey} {a : Addr} (x : IsK h k a) (hk : ∀ b o vs n, h.get? b = some o → o.data = .seq vs n → h'.get? b = some o) : IsK h' k a := ⟨NestedIs.at hk k _ x.is, x.dp, x.on⟩
theorem IsK.keep {h h' : Heap} {k : NestedKey} {a : Addr} (x : IsK h k a) (hk : ∀ b o, h.get? b = some o → h'.get? b = some o) : IsK h' k a := x.at fun b o _ _ e _ => hk b o e
theorem IsK.same {h h' : Heap} {k : NestedKey} {a c : Addr} {o : Obj} {es : Array (Int × Value)} {ep : Nat} {t : SetTable} (x : IsK h k c) (ho : h.get? a = some o) (hd : o.data = .set es ep t) (hs : Heap.SameBut a h h') : IsK h' k c :=
  x.at fun b ob vs n hb hc => by
    refine (hs.2 b fun e => ?_).trans hb
    subst e
    rw [ho] at hb
    cases hb
    rw [hd] at hc
    cases hc
theorem IsK.inj {h : Heap} {k k' : NestedKey} {a : Addr} (x : IsK h k a) (y : IsK h k' a) : k = k' := NestedIs.inj _ _ _ x.is y.is
/-- what is asked of a stored tuple, n levels down -/
def AskF (P : Program) (w : World) (f : Nat → Value → Sem Bool) (b : Bool) (n : Nat) (s : Shared) (v : Value) : Prop := ∀ (A : Around) (E : Value → Shared → Prop) (Q : Bool → Shared → Prop), Q b s → wpAny (model P w) A (f n v) Q E s
theorem ask_of (f : Nat → Value → Sem Bool) (b : Bool) (h0 : ∀ n i t, f n (.int i t) = pure b) (h1 : ∀ n c, f n (.bool c) = pure b)
    (ht : ∀ (n : Nat) (s : Shared) (a : Addr) (o : Obj) (vs : Array Value) (m : Nat), s.heap.get? a = some o → o.cls = .type "tuple" → o.data = .seq vs m → (∀ v ∈ vs.toList, AskF P w f b n s v) → AskF P w f b (n + 1) s (.ref a)) :
    ∀ (n : Nat) (s : Shared), (∀ (k : NestedKey) (v : Value), NestedIs s.heap k v → k.depth ≤ n → onlyN k = true → AskF P w f b n s v) ∧ ∀ (ks : List NestedKey) (vs : List Value), NestedAll s.heap ks vs → NestedKey.depthAll ks ≤ n → onlyNs ks = true → ∀ v ∈ vs, AskF P w f b n s v := by
  intro n
  induction n with
  | zero =>
    intro s
    have one : ∀ (k : NestedKey) (v : Value), NestedIs s.heap k v → k.depth ≤ 0 → onlyN k = true → AskF P w f b 0 s v := fun k v x hd ho => by
      cases x with
      | none => cases ho
      | bool e => intro A E Q q; rw [h1]; exact wpAny_pure q
      | int i t => intro A E Q q; rw [h0]; exact wpAny_pure q
      | text x t => cases ho
      | tup h1 h2 h3 h4 => simp only [NestedKey.depth] at hd; omega
    refine ⟨one, fun ks => ?_⟩
    induction ks with
    | nil => intro vs x _ _ v hv; cases x; cases hv
    | cons k ks ih =>
      intro vs x hd ho v hv
      cases x with
      | cons x1 x2 =>
        simp only [NestedKey.depthAll] at hd
        rw [onlyNs, Bool.and_eq_true] at ho
        rcases List.mem_cons.mp hv with e | hv
        · subst e; exact one k _ x1 (by omega) ho.1
        · exact ih _ x2 (by omega) ho.2 v hv
  | succ n ihn =>
    intro s
    have one : ∀ (k : NestedKey) (v : Value), NestedIs s.heap k v → k.depth ≤ n + 1 → onlyN k = true → AskF P w f b (n + 1) s v := fun k v x hd ho => by
      cases x with
      | none => cases ho
      | bool e => intro A E Q q; rw [h1]; exact wpAny_pure q
      | int i t => intro A E Q q; rw [h0]; exact wpAny_pure q
      | text x t => cases ho
      | tup e1 e2 e3 e4 =>
        simp only [NestedKey.depth] at hd
        exact ht n s _ _ _ _ e1 e2 e3 ((ihn s).2 _ _ e4 (by omega) (by rw [onlyN] at ho; exact ho))
    refine ⟨one, fun ks => ?_⟩
    induction ks with
    | nil => intro vs x _ _ v hv; cases x; cases hv
    | cons k ks ih =>
      intro vs x hd ho v hv
      cases x with
      | cons x1 x2 =>
        simp only [NestedKey.depthAll] at hd
        rw [onlyNs, Bool.and_eq_true] at ho
        rcases List.mem_cons.mp hv with e | hv
        · subst e; exact one k _ x1 (by omega) ho.1
        · exact ih _ x2 (by omega) ho.2 v hv
theorem ofA_key {k : NestedKey} {a : Addr} {Q : Bool → Shared → Prop} (x : IsK s.heap k a) (h : Q false s) : wpAny (model P w) A (ofAClassStatement 8 (.ref a)) Q E s := by
  refine ((ask_of (P := P) (w := w) ofAClassStatement false (fun n i t => by cases n <;> rfl) (fun n c => by cases n <;> rfl) (fun n s a o vs m ho hc hd ih A E Q q => ?_) 8 s).1 k _ x.is x.dp x.on) A E Q h
  have hT : s.TypeIs (.ref a) "tuple" := ⟨o, ho, hc⟩
  unfold ofAClassStatement
  refine wpAny_bind (wpAny_typeOf hT ?_)
  dsimp only
  have e : (("tuple" : String) == "tuple") = true := by decide
  simp only [e, if_true, Bool.not_true, Bool.false_eq_true, if_false]
  try refine wpAny_bind (wpAny_pure ?_)
  try simp only [Bool.not_true, Bool.false_eq_true, if_false]
  show wpAny _ _ (seqItems? (.ref a) >>= _) _ _ s
  refine wpAny_bind (wpAny_seqItems ho hd ?_)
  dsimp only
  refine wpAny_bind ?_
  show wpAny _ _ (forIn vs _ _) _ _ s
  rw [← Array.forIn_toList]
  refine wpAny_forIn_list _ (fun rest r s' => r.1 = none ∧ s' = s ∧ ∀ v ∈ rest, AskF P w ofAClassStatement false n s v) _ ?_ ?_ _ _ ⟨rfl, rfl, ih⟩
  · rintro v rest r s' ⟨hr, rfl, hall⟩
    refine wpAny_bind (hall v List.mem_cons_self _ _ _ ?_)
    simp only [Bool.false_eq_true, if_false]
    exact wpAny_pure ⟨rfl, rfl, fun u hu' => hall u (List.mem_cons_of_mem _ hu')⟩
  · rintro ⟨r1, r2⟩ s' ⟨hr, rfl, _⟩
    simp only at hr
    subst hr
    exact wpAny_pure q
theorem hashBy_key {k : NestedKey} {a : Addr} {Q : Bool → Shared → Prop} (x : IsK s.heap k a) (h : Q true s) : wpAny (model P w) A (hashByValue 8 (.ref a)) Q E s := by
  refine ((ask_of (P := P) (w := w) hashByValue true (fun n i t => by cases n <;> rfl) (fun n c => by cases n <;> rfl) (fun n s a o vs m ho hc hd ih A E Q q => ?_) 8 s).1 k _ x.is x.dp x.on) A E Q h
  have hT : s.TypeIs (.ref a) "tuple" := ⟨o, ho, hc⟩
  unfold hashByValue
  refine wpAny_bind (wpAny_specialOf hT PySem.F.slot_tuple_hash.lookup ?_)
  show wpAny _ _ (seqItems? (.ref a) >>= _) _ _ s
  refine wpAny_bind (wpAny_seqItems ho hd ?_)
  refine wpAny_bind ?_
  show wpAny _ _ (forIn vs _ _) _ _ s
  rw [← Array.forIn_toList]
  refine wpAny_forIn_list _ (fun rest r s' => r.1 = none ∧ s' = s ∧ ∀ v ∈ rest, AskF P w hashByValue true n s v) _ ?_ ?_ _ _ ⟨rfl, rfl, ih⟩
  · rintro v rest r s' ⟨hr, rfl, hall⟩
    refine wpAny_bind (hall v List.mem_cons_self _ _ _ ?_)
    simp only [Bool.not_true, Bool.false_eq_true, if_false]
    exact wpAny_pure ⟨rfl, rfl, fun u hu' => hall u (List.mem_cons_of_mem _ hu')⟩
  · rintro ⟨r1, r2⟩ s' ⟨hr, rfl, _⟩
    simp only at hr
    subst hr
    exact wpAny_pure q
/-- a search among such keys shows nothing -/
theorem seen_key {k : NestedKey} {a : Addr} {Q : Bool → Shared → Prop} (x : IsK s.heap k a) {ys : List Value} (hy : ∀ y ∈ ys, ∃ k' c, y = Value.ref c ∧ IsK s.heap k' c) (h : Q false s) : wpAny (model P w) A (searchCouldBeSeen (.ref a) ys) Q E s := by
  unfold searchCouldBeSeen
  refine wpAny_bind ?_
  refine wpAny_forIn_list _ (fun rest r s' => r.1 = none ∧ s' = s ∧ ∀ y ∈ rest, ∃ k' c, y = Value.ref c ∧ IsK s.heap k' c) _ ?_ ?_ _ _ ⟨rfl, rfl, hy⟩
  · rintro v rest r s' ⟨hr, rfl, hall⟩
    obtain ⟨k', c, rfl, hc⟩ := hall v List.mem_cons_self
    have rest' : ∀ y ∈ rest, ∃ k' c, y = Value.ref c ∧ IsK s'.heap k' c := fun u hu' => hall u (List.mem_cons_of_mem _ hu')
    dsimp only
    by_cases hv : (a == c || (carriedByValue (.ref a) && carriedByValue (.ref c))) = true
    · exact wp_if_pos hv (wpAny_pure ⟨rfl, rfl, rest'⟩)
    · refine wp_if_neg hv ?_
      refine wpAny_bind ((nestedKind P w).quiet x.hk ?_)
      simp only [Bool.not_true, Bool.false_eq_true, if_false]
      refine wpAny_bind ((nestedKind P w).quiet hc.hk ?_)
      simp only [Bool.not_true, Bool.false_eq_true, if_false]
      refine wpAny_bind (ofA_key x ?_)
      simp only [Bool.false_eq_true, if_false]
      refine wpAny_bind (ofA_key hc ?_)
      simp only [Bool.false_eq_true, if_false]
      exact wpAny_pure ⟨rfl, rfl, rest'⟩
  · rintro ⟨r1, r2⟩ s' ⟨hr, rfl, _⟩
    simp only at hr
    subst hr
    exact wpAny_pure h
end
end Ev

set_option Elab.async false
set_option linter.all false
set_option maxRecDepth 100000
set_option autoImplicit false
/-! EvSet2: finding and adding. -/
namespace Ev
open PySem PySem.Spec PyProof.Rows L2
abbrev KL := List (Addr × NestedKey)
def rowK (w : World) (p : Addr × NestedKey) : Int × Value := (p.2.hash w, .ref p.1)
/-- where the search for the hash h stands at its c-th step -/
abbrev prb (m : Nat) (h : Int) (c : Nat) : SetTable.Probe := nth m (runAt m (SetTable.bits h % (m + 1)) (SetTable.bits h)) c
theorem way_prb (m : Nat) (h : Int) (c : Nat) : way m h c = (prb m h c).j := rfl
theorem prb_add (m : Nat) (h : Int) (c q : Nat) : nth m (prb m h c) q = prb m h (c + q) := (nth_add m c _ q).symm
theorem nth_dummy (m : Nat) : ∀ (n : Nat) (p : SetTable.Probe), p.dummy = none → (nth m p n).dummy = none
  | 0, _, h => h
  | n + 1, p, h => nth_dummy m n (adv m p) (by unfold adv; split <;> exact h)
/-- the set at a: its keys in the table's order -/
structure SetK (w : World) (h : Heap) (a : Addr) (L : KL) (es : Array (Int × Value)) (ep : Nat) (t : SetTable) : Prop where
  ob : ∃ o, h.get? a = some o ∧ o.ExactSet ∧ o.data = .set es ep t
  rows : es.toList = L.map (rowK w)
  tab : TabOk t (L.map fun p => p.2.hash w)
  nd : (L.map (·.2)).Nodup
  key : ∀ p ∈ L, IsK h p.2 p.1
  plain : t.plain = true
  led : w.params.followText "set-order" = true ∨ t.led = true
  room : L.length * 5 < t.mask * 3
  few : L.length < 64
section
variable {P : Program} {w : World} {A : Around} {E : Value → Shared → Prop} {s : Shared} {h : Heap} {a : Addr} {L : KL} {es : Array (Int × Value)} {ep : Nat} {t : SetTable}
theorem rows_len (hr : es.toList = L.map (rowK w)) : es.size = L.length := by
  rw [← Array.length_toList, hr, List.length_map]
theorem rows_at (hr : es.toList = L.map (rowK w)) {i : Nat} {p : Addr × NestedKey} (hp : L[i]? = some p) : es[i]? = some (rowK w p) := by
  rw [← Array.getElem?_toList, hr, List.getElem?_map, hp]
  rfl
theorem fits_of (hs : t.place.size = es.size) (hd : t.dummies = #[]) (hm : es.size ≤ t.mask) : t.fits es.size = true := by
  unfold SetTable.fits SetTable.fill
  rw [hd, Bool.and_eq_true, beq_iff_eq, decide_eq_true_eq]
  exact ⟨hs, by show t.place.size + 0 ≤ t.mask; omega⟩
theorem SetK.place (R : SetK w h a L es ep t) : t.place.size = L.length := by
  have := R.tab.sz
  rw [List.length_map] at this
  exact this
theorem SetK.fits (R : SetK w h a L es ep t) : t.fits es.size = true := by
  have h1 := rows_len R.rows
  have h2 := R.place
  have h3 := R.room
  exact fits_of (by omega) R.tab.dm (by omega)
theorem SetK.gw (R : SetK w h a L es ep t) : ¬ t.gaveWay = true := by
  unfold SetTable.gaveWay
  rw [mask_odd R.tab.mok]
  decide
/-- from the c-th step on -/
theorem srch_from (R : SetK w s.heap a L es ep t) {x : Addr} {k : NestedKey} (hx : IsK s.heap k x) (hu : A.units + 8 < cLine) {K : Nat} (hKf : K < 10 * SetTable.turns t.mask)
    (hK : way t.mask (k.hash w) K ∉ t.place.toList) (hKb : ∀ c, c < K → way t.mask (k.hash w) c ∈ t.place.toList) {Q : SetFound → Shared → Prop}
    (hin : k ∈ L.map (·.2) → Q (.there none) s) (hout : k ∉ L.map (·.2) → Q (.free (way t.mask (k.hash w) K) false) s) :
    ∀ (f c : Nat) (stand : Option SetTable.Probe), stand.getD (t.probeStart (k.hash w)) = prb t.mask (k.hash w) c → c ≤ K → K - c < f →
      (∀ (i : Nat) p, L[i]? = some p → p.2 = k → ∃ c', c ≤ c' ∧ c' < K ∧ t.place.toList[i]? = some (way t.mask (k.hash w) c')) →
      wpAny (model P w) A (setSearchFrom a (.ref x) (k.hash w) true f stand) Q E s
  | 0, c, stand, _, _, hf, _ => absurd hf (Nat.not_lt_zero _)
  | f + 1, c, stand, hst, hc, hf, hre => by
    obtain ⟨o, ho, hex, hd⟩ := R.ob
    have hpl := R.place
    rw [setSearchFrom_succ]
    refine wpAny_bind (wpAny_setState_of ho hd R.fits ?_)
    dsimp only
    refine wp_if_neg R.gw ?_
    try refine wpAny_bind (wpAny_pure ?_)
    have e1 : ∀ q, (nth t.mask (prb t.mask (k.hash w) c) q).j = way t.mask (k.hash w) (c + q) := fun q => congrArg SetTable.Probe.j (prb_add _ _ _ _)
    have hashAt : ∀ (i : Nat) p, L[i]? = some p → (es[i]?.map (·.1)).getD 0 = p.2.hash w := fun i p hp => by
      rw [rows_at R.rows hp]
      rfl
    have spec := go_spec t R.tab.ris R.tab.dm (fun i => (es[i]?.map (·.1)).getD 0) (k.hash w) (10 * SetTable.turns t.mask) (K - c) _ (nth_dummy t.mask c _ rfl) (by omega)
      (fun q hq => by rw [e1]; exact hKb (c + q) (by omega)) (by rw [e1, show c + (K - c) = K by omega]; exact hK)
    -- an entry with this key isn't passed over
    have notyet : ∀ (i0 : Nat) p0 (c' : Nat), L[i0]? = some p0 → p0.2 = k → (es[i0]?.map (·.1)).getD 0 = k.hash w := fun i0 p0 _ h0 hk0 => (hashAt i0 p0 h0).trans (by rw [hk0])
    rcases spec with ⟨q, i, hq, hi, hh, hno, hpr⟩ | ⟨hno, hpr⟩
    · -- a candidate
      have hpr' : t.probe (fun i => (es[i]?.map (·.1)).getD 0) (k.hash w) (stand.getD (t.probeStart (k.hash w))) = some (.candidate (way t.mask (k.hash w) (c + q)) i (prb t.mask (k.hash w) (c + (q + 1)))) := by
        rw [hst, ← e1, ← prb_add]
        exact hpr
      rw [hpr']
      dsimp only
      rw [e1] at hi
      have hil : i < L.length := by
        have h1 := (List.getElem?_eq_some_iff.mp hi).1
        rw [Array.length_toList] at h1
        omega
      obtain ⟨p, hp⟩ : ∃ p, L[i]? = some p := ⟨_, List.getElem?_eq_getElem hil⟩
      have hmem : p ∈ L := List.mem_of_getElem? hp
      have hent := rows_at R.rows hp
      have hsl : t.slot (way t.mask (k.hash w) (c + q)) = .live i := slot_live R.tab.ris hi
      have rest : wpAny (model P w) A (searchRest a (.ref x) (k.hash w) true f es t (way t.mask (k.hash w) (c + q)) i (prb t.mask (k.hash w) (c + (q + 1)))) Q E s := by
        unfold searchRest
        rw [hent]
        dsimp only [rowK]
        refine wpAny_bind (wpAny_holding ((nestedKind P w).eqBool hu (R.key p hmem).hk hx.hk ?_))
        refine wpAny_bind (wpAny_setState_of ho hd R.fits ?_)
        dsimp only
        by_cases hkk : p.2 = k
        · refine wp_if_pos (by simp [hkk]) (wpAny_pure (hin (List.mem_map.mpr ⟨p, hmem, hkk⟩)))
        · refine wp_if_neg (by simp [hkk]) ?_
          try refine wpAny_bind (wpAny_pure ?_)
          rw [sameMem]
          dsimp only
          simp only [if_true, hsl, hent, rowK]
          refine wpAny_bind (wpAny_isSame_ref_self (wpAny_bind (wpAny_pure ?_)))
          simp only [if_true]
          refine wp_if_neg (by simp [hkk]) ?_
          refine srch_from R hx hu hKf hK hKb hin hout f (c + (q + 1)) _ rfl (by omega) (by omega) fun i0 p0 h0 hk0 => ?_
          obtain ⟨c', a1, a2, a3⟩ := hre i0 p0 h0 hk0
          refine ⟨c', ?_, a2, a3⟩
          rcases Nat.lt_trichotomy c' (c + q) with z | z | z
          · exact absurd (notyet i0 p0 c' h0 hk0) (hno (c' - c) i0 (by omega) (by rw [e1, show c + (c' - c) = c' by omega]; exact a3))
          · exfalso
            rw [z] at a3
            have s0 := slot_live R.tab.ris a3
            rw [hsl] at s0
            injection s0 with s0
            rw [← s0, hp] at h0
            cases h0
            exact hkk hk0
          · omega
      by_cases hl : t.led = true
      · refine wp_if_neg (by simp [hl]) ?_
        try refine wpAny_bind (wpAny_pure ?_)
        exact rest
      · refine wp_if_pos (by simp [hl]) ?_
        refine wpAny_bind (seen_key hx (fun y hy => ?_) ?_)
        · obtain ⟨e, he, ee⟩ := List.mem_map.mp hy
          have he1 : e ∈ es ∧ e.1 = k.hash w := by simpa using he
          have he2 : e ∈ es.toList := by simpa using he1.1
          rw [R.rows] at he2
          obtain ⟨p2, hp2, e2⟩ := List.mem_map.mp he2
          exact ⟨p2.2, p2.1, by rw [← ee, ← e2]; rfl, R.key p2 hp2⟩
        · refine wp_if_neg (by decide) ?_
          try refine wpAny_bind (wpAny_pure ?_)
          exact rest
    · -- the empty slot
      have hpr' : t.probe (fun i => (es[i]?.map (·.1)).getD 0) (k.hash w) (stand.getD (t.probeStart (k.hash w))) = some (.empty (way t.mask (k.hash w) K) none) := by
        have e2 : way t.mask (k.hash w) K = (nth t.mask (prb t.mask (k.hash w) c) (K - c)).j := by rw [e1, show c + (K - c) = K by omega]
        rw [hst, e2]
        exact hpr
      rw [hpr']
      dsimp only
      refine wpAny_pure (hout fun hm => ?_)
      obtain ⟨p0, h0, hk0⟩ := List.mem_map.mp hm
      obtain ⟨i0, h00⟩ := List.mem_iff_getElem?.mp h0
      obtain ⟨c', a1, a2, a3⟩ := hre i0 p0 h00 hk0
      exact hno (c' - c) i0 (by omega) (by rw [e1, show c + (c' - c) = c' by omega]; exact a3) (notyet i0 p0 c' h00 hk0)
theorem srch (R : SetK w s.heap a L es ep t) {x : Addr} {k : NestedKey} (hx : IsK s.heap k x) (hu : A.units + 8 < cLine) {Q : SetFound → Shared → Prop} (hin : k ∈ L.map (·.2) → Q (.there none) s)
    (hout : ∀ K, k ∉ L.map (·.2) → way t.mask (k.hash w) K ∉ t.place.toList → (∀ c, c < K → way t.mask (k.hash w) c ∈ t.place.toList) → Q (.free (way t.mask (k.hash w) K) false) s) :
    wpAny (model P w) A (setSearch a (.ref x) (k.hash w) true) Q E s := by
  have hroom := R.room
  obtain ⟨K, hKf, hK, hKb⟩ := R.tab.first (by rw [List.length_map]; omega) (k.hash w)
  have hbig : 10 * SetTable.turns t.mask ≤ 1420 := by
    unfold SetTable.turns
    rcases R.tab.mok with e | e | e <;> omega
  unfold setSearch
  refine srch_from R hx hu hKf hK hKb hin (fun hn => hout K hn hK hKb) 100000 0 none rfl (Nat.zero_le _) (by omega) fun i p hp hk => ?_
  have hi : (L.map fun p => p.2.hash w)[i]? = some (k.hash w) := by rw [List.getElem?_map, hp, ← hk]; rfl
  have hil : i < t.place.toList.length := by
    have h1 := (List.getElem?_eq_some_iff.mp hp).1
    have h2 := R.place
    rw [Array.length_toList]
    omega
  have hj := List.getElem?_eq_getElem hil
  obtain ⟨c, hc, e⟩ := R.tab.before hK hi hj
  exact ⟨c, Nat.zero_le _, hc, by rw [hj, e]⟩
end
end Ev

set_option Elab.async false
set_option linter.all false
set_option maxRecDepth 100000
set_option autoImplicit false
/-! EvSet3: the table laid anew; adding. -/
namespace Ev
open PySem PySem.Spec PyProof.Rows L2
theorem range_filterMap {α : Type} (l : List α) : (List.range l.length).filterMap (fun i => l[i]?) = l := by
  have key : ∀ n, n ≤ l.length → (List.range n).filterMap (fun i => l[i]?) = l.take n := by
    intro n
    induction n with
    | zero => intro _; rfl
    | succ n ih =>
      intro hn
      rw [List.range_succ, List.filterMap_append, ih (by omega), List.take_add_one, List.getElem?_eq_getElem hn, List.filterMap_cons_some (List.getElem?_eq_getElem hn)]
      rfl
  rw [key l.length (Nat.le_refl _), List.take_length]
section
variable {P : Program} {w : World} {A : Around} {E : Value → Shared → Prop} {s : Shared} {h : Heap} {a : Addr} {L : KL} {es : Array (Int × Value)} {ep : Nat} {t : SetTable}
/-- the entries in another order -/
theorem reorder (order : List Nat) (hr : es.toList = L.map (rowK w)) (hp : order.Perm (List.range L.length)) :
    (order.filterMap fun i => es[i]?) = (order.filterMap fun i => L[i]?).map (rowK w) ∧ (order.filterMap fun i => L[i]?).Perm L ∧ ((order.filterMap fun i => L[i]?).map fun p => p.2.hash w) = order.map fun i => (es.map (·.1)).getD i 0 := by
  have key : ∀ l : List Nat, (∀ i ∈ l, i < L.length) → (l.filterMap fun i => es[i]?) = (l.filterMap fun i => L[i]?).map (rowK w) ∧ ((l.filterMap fun i => L[i]?).map fun p => p.2.hash w) = l.map fun i => (es.map (·.1)).getD i 0 := by
    intro l
    induction l with
    | nil => intro _; exact ⟨rfl, rfl⟩
    | cons i l ih =>
      intro hl
      obtain ⟨e1, e2⟩ := ih fun j hj => hl j (List.mem_cons_of_mem _ hj)
      have hli := hl i List.mem_cons_self
      have hi : L[i]? = some L[i] := List.getElem?_eq_getElem hli
      have hei := rows_at hr hi
      refine ⟨?_, ?_⟩
      · rw [List.filterMap_cons_some hei, List.filterMap_cons_some hi, e1, List.map_cons]
      · rw [List.filterMap_cons_some hi, List.map_cons, List.map_cons, e2]
        have e3 : (es.map (·.1))[i]? = some (L[i].2.hash w) := by rw [Array.getElem?_map, hei]; rfl
        have e4 : (es.map (·.1)).getD i 0 = L[i].2.hash w := by simp [Array.getD_eq_getD_getElem?, e3]
        rw [e4]
  obtain ⟨e1, e2⟩ := key order fun i hi => List.mem_range.mp (hp.mem_iff.mp hi)
  refine ⟨e1, ?_, e2⟩
  have := hp.filterMap (fun i => L[i]?)
  rw [range_filterMap] at this
  exact this
theorem relay {o : Obj} (ho : s.heap.get? a = some o) (hex : o.ExactSet) (hd : o.data = .set es ep t) (hr : es.toList = L.map (rowK w)) (hsz : t.place.size = es.size) (hdm : t.dummies = #[]) (hfl : es.size ≤ t.mask)
    (nd : (L.map (·.2)).Nodup) (hkey : ∀ p ∈ L, IsK s.heap p.2 p.1) (pl : t.plain = true) (ld : w.params.followText "set-order" = true ∨ t.led = true) (few : L.length < 64) {wanted M : Nat}
    (hw : SetTable.sizeAbove wanted - 1 = M) (hM : MaskOk M) (hw2 : SetTable.sizeAbove wanted ≤ 128) (hn : L.length * 5 < M * 3) {Q : Unit → Shared → Prop}
    (hQ : ∀ h' L' es' ep' t', Heap.SameBut a s.heap h' → SetK w h' a L' es' ep' t' → L'.Perm L → Q () { s with heap := h' }) : wpAny (model P w) A (setRelay a wanted) Q E s := by
  have hsl := rows_len hr
  obtain ⟨t', order, e, hp, T, em, el, ep', ed⟩ := relaid_ok t (hs := es.map (·.1)) (wanted := wanted) hw hM (by rw [Array.size_map, hsl]; omega)
  rw [Array.size_map, hsl] at hp
  obtain ⟨r1, r2, r3⟩ := reorder order.toList hr hp
  rw [← r3] at T
  generalize order.toList.filterMap (fun i => L[i]?) = L2 at r1 r2 r3 T
  have r1' : (order.filterMap (es[·]?)).toList = L2.map (rowK w) := by first | (rw [Array.toList_filterMap]; exact r1) | simpa using r1
  have hs2 := rows_len r1'
  have hl2 := r2.length_eq
  rw [setRelay_eq]
  refine wpAny_bind (wpAny_setState_of ho hd (fits_of hsz hdm hfl) ?_)
  dsimp only
  refine wp_if_neg (by rw [sizeLine_eq]; omega) ?_
  try refine wpAny_bind (wpAny_pure ?_)
  rw [e]
  dsimp only
  refine wpAny_bind ?_
  refine wp_if_neg (by rw [hs2, hl2, hsl]; simp) ?_
  try refine wpAny_bind (wpAny_pure ?_)
  refine wpAny_pure ?_
  dsimp only
  refine wpAny_storeSet_of ho hd ?_ (by rw [hs2, hl2, sizeLine_eq]; omega)
  have sb : Heap.SameBut a s.heap (s.heap.update a (Obj.putSet (order.filterMap (es[·]?)) t')) := Heap.SameBut.update ..
  refine hQ _ L2 (order.filterMap (es[·]?)) (ep + 1) t' sb ⟨⟨_, store_at ho hd, ⟨hex.1, hex.2.1, hex.2.2⟩, rfl⟩, r1', T, (r2.map (·.2)).nodup_iff.mpr nd, fun p hpm => (hkey p (r2.mem_iff.mp hpm)).same ho hd sb, by rw [ep']; exact pl, by rw [el]; exact ld, by rw [hl2, em]; exact hn, by omega⟩ r2
/-- adding -/
theorem add_key (R : SetK w s.heap a L es ep t) {x : Addr} {k : NestedKey} (hx : IsK s.heap k x) (hu : A.units + 8 < cLine) (hfew : L.length + 1 < 64) {Q : Bool → Shared → Prop}
    (hQ : ∀ c h' L' es' ep' t', Heap.SameBut a s.heap h' → SetK w h' a L' es' ep' t' → (k ∈ L.map (·.2) → L' = L) → (k ∉ L.map (·.2) → L'.Perm ((x, k) :: L)) → Q c { s with heap := h' }) :
    wpAny (model P w) A (setAddHashed a (.ref x) (k.hash w)) Q E s := by
  obtain ⟨o, ho, hex, hd⟩ := R.ob
  have hsl := rows_len R.rows
  have hroom := R.room
  unfold setAddHashed
  refine wpAny_holding ?_
  rw [show (100000 : Nat) = 99999 + 1 from rfl, setAddHashedIn_succ]
  refine wpAny_bind (wpAny_setState_of ho hd R.fits ?_)
  dsimp only
  refine wp_if_neg (by simp [byScan, Value.scannable]) ?_
  try refine wpAny_bind (wpAny_pure ?_)
  refine wpAny_bind (srch R hx hu (fun hm => ?_) fun K hm hK hb => ?_)
  · dsimp only
    exact wpAny_pure (hQ false s.heap L es ep t (Heap.SameBut.refl a s.heap) R (fun _ => rfl) fun z => absurd hm z)
  · dsimp only
    refine wpAny_bind (wpAny_setState_of ho hd R.fits ?_)
    dsimp only
    obtain ⟨q1, q2, q3, q4, q5, q6, q7, q8, q9⟩ := R.tab.put hK hb
    have hp1 : (t.put (way t.mask (k.hash w) K)).1.plain = true := by rw [q6]; exact R.plain
    generalize hpt : t.put (way t.mask (k.hash w) K) = pt at q1 q3 q4 q5 q6 q7 q8 q9 hp1 ⊢
    obtain ⟨t1, p⟩ := pt
    dsimp only at q1 q3 q4 q5 q6 q7 q8 q9 hp1 ⊢
    subst q1
    first
      | (refine wpAny_bind ?_; refine wp_if_pos hp1 ?_; refine hashBy_key hx ?_)
      | refine wp_if_pos hp1 (wpAny_bind (hashBy_key hx ?_))
    simp only [if_true]
    generalize hpp : SetTable.below t.place (way t.mask (k.hash w) K) = p at q2 q3 ⊢
    have pm : (L.take p ++ (x, k) :: L.drop p).Perm ((x, k) :: L) := put_perm L p (x, k)
    have hin : (SetTable.insertAt es p (k.hash w, Value.ref x)).toList = (L.take p ++ (x, k) :: L.drop p).map (rowK w) := by
      rw [SetTable.toList_insertAt, R.rows, List.map_append, List.map_cons, List.map_take, List.map_drop]
      rfl
    have hlen : (L.take p ++ (x, k) :: L.drop p).length = L.length + 1 := pm.length_eq
    have hhs : (L.take p ++ (x, k) :: L.drop p).map (fun p => p.2.hash w) = (L.map fun p => p.2.hash w).take p ++ k.hash w :: (L.map fun p => p.2.hash w).drop p := by
      rw [List.map_append, List.map_cons, List.map_take, List.map_drop]
    rw [← hhs] at q3
    have nd1 : ((L.take p ++ (x, k) :: L.drop p).map (·.2)).Nodup := (pm.map (·.2)).nodup_iff.mpr (by
      rw [List.map_cons]
      exact List.nodup_cons.mpr ⟨hm, R.nd⟩)
    have hes := rows_len hin
    generalize SetTable.insertAt es p (k.hash w, Value.ref x) = es1 at hin hes ⊢
    generalize L.take p ++ (x, k) :: L.drop p = L1 at pm hlen q3 nd1 hin hes
    refine wpAny_bind (wpAny_storeSet_of ho hd ?_ (by rw [hes, hlen, sizeLine_eq]; omega))
    have sb : Heap.SameBut a s.heap (s.heap.update a (Obj.putSet es1 t1)) := Heap.SameBut.update ..
    have ho1 := store_at (es' := es1) (t' := t1) ho hd
    generalize s.heap.update a (Obj.putSet es1 t1) = h1 at sb ho1 ⊢
    have key1 : ∀ p ∈ L1, IsK h1 p.2 p.1 := fun p hp => by
      rcases List.mem_cons.mp (pm.mem_iff.mp hp) with e | hp
      · rw [e]; exact hx.same ho hd sb
      · exact (R.key p hp).same ho hd sb
    have ld1 : w.params.followText "set-order" = true ∨ t1.led = true := by rw [q5]; exact R.led
    have hsz1 : t1.place.size = es1.size := by
      have h := q3.sz
      rw [List.length_map] at h
      omega
    by_cases hf : t1.tooFull = true
    · first
        | (refine wpAny_bind ?_; refine wp_if_pos (by simp [hf]) ?_)
        | (refine wp_if_pos (by simp [hf]) ?_; refine wpAny_bind ?_)
      have hfull : (L.length + 1) * 5 ≥ t1.mask * 3 := by
        have h := hf
        unfold SetTable.tooFull at h
        rw [decide_eq_true_eq, q9, List.length_map] at h
        exact h
      rw [hsl]
      have two : (t.mask = 7 ∧ L.length = 4) ∨ (t.mask = 31 ∧ L.length = 18) := by
        rw [q4] at hfull
        rcases R.tab.mok with e | e | e
        · left; exact ⟨e, by omega⟩
        · right; exact ⟨e, by omega⟩
        · omega
      have go : ∀ M, SetTable.sizeAbove (SetTable.grown (L.length + 1)) - 1 = M → MaskOk M → SetTable.sizeAbove (SetTable.grown (L.length + 1)) ≤ 128 → (L.length + 1) * 5 < M * 3 →
          wpAny (model P w) A (setRelay a (SetTable.grown (L.length + 1))) (fun _ s' => wpAny (model P w) A (pure true) Q E s') E { s with heap := h1 } := fun M g1 g2 g3 g4 => by
        refine relay (s := { s with heap := h1 }) ho1 ⟨hex.1, hex.2.1, hex.2.2⟩ rfl hin hsz1 q3.dm (by rw [hes, hlen, q4]; rcases two with ⟨e, e2⟩ | ⟨e, e2⟩ <;> omega) nd1 key1 hp1 ld1 (by omega) g1 g2 g3 (by rw [hlen]; exact g4) ?_
        intro h2 L2 es2 ep2 t2 sb2 R2 pm2
        exact wpAny_pure (hQ true h2 L2 es2 ep2 t2 (sb.trans sb2) R2 (fun z => absurd z hm) fun _ => pm2.trans pm)
      rcases two with ⟨_, e2⟩ | ⟨_, e2⟩
      · exact go 31 (by rw [e2, size_20]) (.inr (.inl rfl)) (by rw [e2, size_20]; decide) (by omega)
      · exact go 127 (by rw [e2, size_76]) (.inr (.inr rfl)) (by rw [e2, size_76]; decide) (by omega)
    · first
        | refine wp_if_neg (by simp [hf]) ?_
        | (refine wpAny_bind ?_; refine wp_if_neg (by simp [hf]) ?_; refine wpAny_pure ?_)
      refine wpAny_pure (hQ true h1 L1 es1 (ep + 1) t1 sb ⟨⟨_, ho1, ⟨hex.1, hex.2.1, hex.2.2⟩, rfl⟩, hin, q3, nd1, key1, hp1, ld1, ?_, by omega⟩ (fun z => absurd z hm) fun _ => pm)
      have h := hf
      unfold SetTable.tooFull at h
      rw [decide_eq_true_eq, q9, List.length_map] at h
      omega
end
end Ev

set_option Elab.async false
set_option linter.all false
set_option maxRecDepth 100000
set_option autoImplicit false
/-! EvSet4: the order of data; a key of data. -/
namespace Ev
open PySem PySem.Spec PyProof.Rows L2
/-! ### the order -/
theorem toks_inj {x y : D} (ha : PySem.W.alike x y = true) (h : PySem.W.keyToks x = PySem.W.keyToks y) : PyData.eqv x y = true := by
  cases e : PyData.eqv x y with
  | true => rfl
  | false =>
    exfalso
    have q := (PySem.W.toks_eqv x y ha).2 e [] [.inl 0]
    rw [h, PySem.W.lex_pre, PyProof.Rows.lex_irrefl] at q
    cases q
theorem lt_eqv {x y : D} (ha : PySem.W.alike x y = true) (h1 : PySem.W.dataLt x y = false) (h2 : PySem.W.dataLt y x = false) : PyData.eqv x y = true :=
  toks_inj ha (PyProof.Rows.lex_total _ _ h1 h2)
mutual
theorem eqv_nk : ∀ (x y : D), nkOk x = true → nkOk y = true → PyData.eqv x y = true → x = y
  | .int i, .int j, _, _, h => by
    rw [PyData.eqv] at h
    rw [of_decide_eq_true (show decide (i = j) = true by simpa using h)]
  | .tuple xs, .tuple ys, h1, h2, h => by
    rw [PyData.eqv] at h
    rw [eqv_nks xs ys h1 h2 h]
  | .int _, .tuple _, _, _, h => by simp [PyData.eqv] at h
  | .tuple _, .int _, _, _, h => by simp [PyData.eqv] at h
  | .none, _, h, _, _ => by simp [nkOk] at h
  | .bool _, _, h, _, _ => by simp [nkOk] at h
  | .str _, _, h, _, _ => by simp [nkOk] at h
  | .list _, _, h, _, _ => by simp [nkOk] at h
  | .dict _, _, h, _, _ => by simp [nkOk] at h
  | .int _, .none, _, h, _ => by simp [nkOk] at h
  | .int _, .bool _, _, h, _ => by simp [nkOk] at h
  | .int _, .str _, _, h, _ => by simp [nkOk] at h
  | .int _, .list _, _, h, _ => by simp [nkOk] at h
  | .int _, .dict _, _, h, _ => by simp [nkOk] at h
  | .tuple _, .none, _, h, _ => by simp [nkOk] at h
  | .tuple _, .bool _, _, h, _ => by simp [nkOk] at h
  | .tuple _, .str _, _, h, _ => by simp [nkOk] at h
  | .tuple _, .list _, _, h, _ => by simp [nkOk] at h
  | .tuple _, .dict _, _, h, _ => by simp [nkOk] at h
theorem eqv_nks : ∀ (xs ys : List D), nkAll xs = true → nkAll ys = true → PyData.eqvAll xs ys = true → xs = ys
  | [], [], _, _, _ => rfl
  | x :: xs, y :: ys, h1, h2, h => by
    rw [nkAll, Bool.and_eq_true] at h1 h2
    rw [PySem.W.eqv_all_cons, Bool.and_eq_true] at h
    rw [eqv_nk x y h1.1 h2.1 h.1, eqv_nks xs ys h1.2 h2.2 h.2]
  | [], _ :: _, _, _, h => by simp [PyData.eqvAll] at h
  | _ :: _, [], _, _, h => by simp [PyData.eqvAll] at h
end
mutual
theorem eqv_refl : ∀ x : D, nkOk x = true → PyData.eqv x x = true
  | .int i, _ => by simp [PyData.eqv]
  | .tuple xs, h => by rw [PyData.eqv]; exact eqv_refls xs h
  | .none, h => by simp [nkOk] at h
  | .bool _, h => by simp [nkOk] at h
  | .str _, h => by simp [nkOk] at h
  | .list _, h => by simp [nkOk] at h
  | .dict _, h => by simp [nkOk] at h
theorem eqv_refls : ∀ xs : List D, nkAll xs = true → PyData.eqvAll xs xs = true
  | [], _ => by simp [PyData.eqvAll]
  | x :: xs, h => by
    rw [nkAll, Bool.and_eq_true] at h
    rw [PySem.W.eqv_all_cons, eqv_refl x h.1, eqv_refls xs h.2]
    rfl
end
theorem eqv_iff {x y : D} (h1 : nkOk x = true) (h2 : nkOk y = true) : PyData.eqv x y = true ↔ x = y := ⟨eqv_nk x y h1 h2, fun e => e ▸ eqv_refl x h1⟩
/-! ### without repetition -/
theorem dedD_mem {y : D} : ∀ {l : List D}, (∀ x ∈ l, nkOk x = true) → (y ∈ dedD l ↔ y ∈ l)
  | [], _ => Iff.rfl
  | x :: xs, h => by
    have hx := h x List.mem_cons_self
    have ih := dedD_mem (y := y) (l := xs) fun z hz => h z (List.mem_cons_of_mem _ hz)
    unfold dedD
    split
    · rename_i hc
      obtain ⟨z, hz, e⟩ := List.any_eq_true.mp hc
      have exz := eqv_nk x z hx (h z (List.mem_cons_of_mem _ hz)) e
      rw [ih, List.mem_cons]
      exact ⟨.inr, fun q => q.elim (fun e2 => by rw [e2, exz]; exact hz) id⟩
    · rw [List.mem_cons, List.mem_cons, ih]
theorem dedD_nodup : ∀ {l : List D}, (∀ x ∈ l, nkOk x = true) → (dedD l).Nodup
  | [], _ => .nil
  | x :: xs, h => by
    have hx := h x List.mem_cons_self
    have hxs : ∀ z ∈ xs, nkOk z = true := fun z hz => h z (List.mem_cons_of_mem _ hz)
    unfold dedD
    split
    · exact dedD_nodup hxs
    · rename_i hc
      refine List.nodup_cons.mpr ⟨fun hm => hc ?_, dedD_nodup hxs⟩
      exact List.any_eq_true.mpr ⟨x, (dedD_mem hxs).mp hm, eqv_refl x hx⟩
/-- what is sorted and has the same items without repetition is sortD of dedD -/
theorem sorted_ded {l m : List D} (hn : ∀ x ∈ l, nkOk x = true) (ha : ∀ x ∈ l, ∀ y ∈ l, PySem.W.alike x y = true) (hs : m.Pairwise (fun a c => leS a c = true)) (hm : ∀ x, x ∈ m ↔ x ∈ l) (nd : m.Nodup) : m = sortD (dedD l) := by
  refine List.Perm.eq_of_pairwise (le := fun a c => leS a c = true) (fun a c h1 h2 q1 q2 => ?_) hs (sortD_sorted _) ?_
  · have h1 := (hm a).mp h1
    have h2 := (dedD_mem hn).mp ((sortD_perm _).mem_iff.mp h2)
    rw [leS_eq, Bool.not_eq_true'] at q1 q2
    exact eqv_nk a c (hn a h1) (hn c h2) (lt_eqv (ha a h1 c h2) q2 q1)
  · refine List.Perm.trans ?_ (sortD_perm _).symm
    exact (List.perm_ext_iff_of_nodup nd (dedD_nodup hn)).mpr fun x => (hm x).trans (dedD_mem hn).symm
/-! ### a key of data -/
mutual
def keyOf : D → NestedKey
  | .int i => .num i
  | .tuple xs => .tup (keysOf xs)
  | _ => .none
def keysOf : List D → List NestedKey
  | [] => []
  | x :: xs => keyOf x :: keysOf xs
end
mutual
theorem keyOf_inj : ∀ (x y : D), nkOk x = true → nkOk y = true → keyOf x = keyOf y → x = y
  | .int i, .int j, _, _, h => by simp only [keyOf, NestedKey.num.injEq] at h; rw [h]
  | .tuple xs, .tuple ys, h1, h2, h => by
    simp only [keyOf, NestedKey.tup.injEq] at h
    rw [keysOf_inj xs ys h1 h2 h]
  | .int _, .tuple _, _, _, h => by simp [keyOf] at h
  | .tuple _, .int _, _, _, h => by simp [keyOf] at h
  | .none, _, h, _, _ => by simp [nkOk] at h
  | .bool _, _, h, _, _ => by simp [nkOk] at h
  | .str _, _, h, _, _ => by simp [nkOk] at h
  | .list _, _, h, _, _ => by simp [nkOk] at h
  | .dict _, _, h, _, _ => by simp [nkOk] at h
  | .int _, .none, _, h, _ => by simp [nkOk] at h
  | .int _, .bool _, _, h, _ => by simp [nkOk] at h
  | .int _, .str _, _, h, _ => by simp [nkOk] at h
  | .int _, .list _, _, h, _ => by simp [nkOk] at h
  | .int _, .dict _, _, h, _ => by simp [nkOk] at h
  | .tuple _, .none, _, h, _ => by simp [nkOk] at h
  | .tuple _, .bool _, _, h, _ => by simp [nkOk] at h
  | .tuple _, .str _, _, h, _ => by simp [nkOk] at h
  | .tuple _, .list _, _, h, _ => by simp [nkOk] at h
  | .tuple _, .dict _, _, h, _ => by simp [nkOk] at h
theorem keysOf_inj : ∀ (xs ys : List D), nkAll xs = true → nkAll ys = true → keysOf xs = keysOf ys → xs = ys
  | [], [], _, _, _ => rfl
  | x :: xs, y :: ys, h1, h2, h => by
    rw [nkAll, Bool.and_eq_true] at h1 h2
    simp only [keysOf, List.cons.injEq] at h
    rw [keyOf_inj x y h1.1 h2.1 h.1, keysOf_inj xs ys h1.2 h2.2 h.2]
  | [], _ :: _, _, _, h => by simp [keysOf] at h
  | _ :: _, [], _, _, h => by simp [keysOf] at h
end
mutual
theorem keyOf_only : ∀ x : D, nkOk x = true → onlyN (keyOf x) = true ∧ (keyOf x).depth = x.depth
  | .int _, _ => by simp [keyOf, onlyN, NestedKey.depth, PyData.depth]
  | .tuple xs, h => by
    obtain ⟨h1, h2⟩ := keysOf_only xs h
    refine ⟨by simpa [keyOf, onlyN] using h1, ?_⟩
    simp only [keyOf, NestedKey.depth, PyData.depth, h2]
  | .none, h => by simp [nkOk] at h
  | .bool _, h => by simp [nkOk] at h
  | .str _, h => by simp [nkOk] at h
  | .list _, h => by simp [nkOk] at h
  | .dict _, h => by simp [nkOk] at h
theorem keysOf_only : ∀ xs : List D, nkAll xs = true → onlyNs (keysOf xs) = true ∧ NestedKey.depthAll (keysOf xs) = PyData.depthAll xs
  | [], _ => by simp [keysOf, onlyNs, NestedKey.depthAll, PyData.depthAll]
  | x :: xs, h => by
    rw [nkAll, Bool.and_eq_true] at h
    obtain ⟨a1, a2⟩ := keyOf_only x h.1
    obtain ⟨b1, b2⟩ := keysOf_only xs h.2
    exact ⟨by rw [keysOf, onlyNs, a1, b1]; rfl, by simp only [keysOf, NestedKey.depthAll, PyData.depthAll, a2, b2]⟩
end
mutual
theorem keyOf_is {h : Heap} : ∀ (x : D) (v : Value) (as : List Addr), nkOk x = true → Reads h v x as → NestedIs h (keyOf x) v
  | .int i, _, _, _, r => by cases r; rw [keyOf]; exact .int _ _
  | .tuple xs, _, _, hn, r => by
    cases r with
    | tuple h1 h2 h3 h4 => rw [keyOf]; exact .tup h1 h2 h3 (keysOf_is xs _ _ hn h4)
  | .none, _, _, hn, _ => by simp [nkOk] at hn
  | .bool _, _, _, hn, _ => by simp [nkOk] at hn
  | .str _, _, _, hn, _ => by simp [nkOk] at hn
  | .list _, _, _, hn, _ => by simp [nkOk] at hn
  | .dict _, _, _, hn, _ => by simp [nkOk] at hn
theorem keysOf_is {h : Heap} : ∀ (xs : List D) (vs : List Value) (as : List Addr), nkAll xs = true → ReadsAll h vs xs as → NestedAll h (keysOf xs) vs
  | [], _, _, _, r => by cases r; rw [keysOf]; exact .nil
  | x :: xs, _, _, hn, r => by
    rw [nkAll, Bool.and_eq_true] at hn
    cases r with
    | cons h1 h2 => rw [keysOf]; exact .cons (keyOf_is x _ _ hn.1 h1) (keysOf_is xs _ _ hn.2 h2)
end
end Ev

set_option Elab.async false
set_option linter.all false
set_option maxRecDepth 100000
set_option autoImplicit false
/-! EvSet5: set(xs), sorted of it. -/
namespace Ev
open PySem PySem.Spec PyProof.Rows L2
/-- what the set has got from the first i items -/
structure GotK (ks : KL) (i : Nat) (L : KL) : Prop where
  sub : ∀ p ∈ L, p ∈ ks.take i
  all : ∀ p ∈ ks.take i, p.2 ∈ L.map (·.2)
  len : L.length ≤ i
theorem GotK.step {ks L L' : KL} {i : Nat} {x : Addr × NestedKey} (g : GotK ks i L) (h : ks[i]? = some x) (c1 : x.2 ∈ L.map (·.2) → L' = L) (c2 : x.2 ∉ L.map (·.2) → L'.Perm (x :: L)) : GotK ks (i + 1) L' := by
  have et : ks.take (i + 1) = ks.take i ++ [x] := by rw [List.take_add_one, h]; rfl
  rcases Classical.em (x.2 ∈ L.map (·.2)) with c | c
  · rw [c1 c]
    refine ⟨fun p hp => by rw [et]; exact List.mem_append_left _ (g.sub p hp), fun p hp => ?_, Nat.le_succ_of_le g.len⟩
    rw [et] at hp
    rcases List.mem_append.mp hp with z | z
    · exact g.all p z
    · rw [List.mem_singleton.mp z]; exact c
  · have pm := c2 c
    refine ⟨fun p hp => ?_, fun p hp => ?_, by rw [pm.length_eq]; exact Nat.succ_le_succ g.len⟩
    · rw [et]
      rcases List.mem_cons.mp (pm.mem_iff.mp hp) with e | z
      · rw [e]; exact List.mem_append_right _ (List.mem_singleton.mpr rfl)
      · exact List.mem_append_left _ (g.sub p z)
    · rw [(pm.map (·.2)).mem_iff, List.map_cons]
      rw [et] at hp
      rcases List.mem_append.mp hp with z | z
      · exact List.mem_cons_of_mem _ (g.all p z)
      · rw [List.mem_singleton.mp z]; exact List.mem_cons_self
section
variable {P : Program} {w : World} {A : Around} {E : Value → Shared → Prop} {s : Shared}
theorem SetK.keep {h h' : Heap} {a : Addr} {L : KL} {es : Array (Int × Value)} {ep : Nat} {t : SetTable} (R : SetK w h a L es ep t) (ha : ∀ o, h.get? a = some o → h'.get? a = some o) (ht : ∀ p ∈ L, IsK h' p.2 p.1) : SetK w h' a L es ep t := by
  obtain ⟨o, ho, r⟩ := R.ob
  exact ⟨⟨o, ha o ho, r⟩, R.rows, R.tab, R.nd, ht, R.plain, R.led, R.room, R.few⟩
theorem setK_new {h : Heap} {a : Addr} (ho : h.get? a = some { cls := .type "set", dict := none, data := .set #[] 0 (.fresh 0 0 (!w.params.followText "set-order")) }) : SetK w h a [] #[] 0 (.fresh 0 0 (!w.params.followText "set-order")) where
  ob := ⟨_, ho, ⟨rfl, rfl, rfl⟩, rfl⟩
  rows := rfl
  tab := ⟨List.Pairwise.nil, rfl, rfl, .inl rfl, fun x hx => (by cases hx), fun i h j hi => (by simp at hi)⟩
  nd := List.nodup_nil
  key := fun p hp => (by cases hp)
  plain := rfl
  led := by
    show _ ∨ (!w.params.followText "set-order") = true
    cases w.params.followText "set-order"
    · exact .inr rfl
    · exact .inl rfl
  room := by
    show 0 * 5 < 7 * 3
    decide
  few := by
    show 0 < 64
    decide
/-- the loop that adds -/
theorem upd_keys {I : Addr} {fp wr : List Addr} {G : Array GenState → Array GenState → Prop} {n : Nat} {Pv : Nat → Value → Prop} {St : Nat → Shared → Prop} {R : Result → Shared → Prop}
    (W : WalksS P w A.in1 I fp wr G n Pv St) (S : Addr) (hSf : S ∉ fp) (ks : KL) (hn : n = ks.length) (hfew : ks.length < 64) (hval : ∀ i v, Pv i v → ∃ p, ks[i]? = some p ∧ v = .ref p.1)
    (h0 : Heap) (hk : ∀ p ∈ ks, IsK h0 p.2 p.1) (hS0 : h0.get? S = none) (hw0 : ∀ b ∈ wr, h0.get? b = none) (hu : A.in1.units + 8 < cLine) :
    ∀ (k i : Nat) (s : Shared), n - i = k → i ≤ n → St i s → (∀ b o, h0.get? b = some o → s.heap.get? b = some o) → (∃ L es ep t, SetK w s.heap S L es ep t ∧ GotK ks i L) →
      (∀ s' L es ep t, Moved (S :: wr) G s s' → SetK w s'.heap S L es ep t → GotK ks n L → (∀ b o, h0.get? b = some o → s'.heap.get? b = some o) → R (.ok (.ret .none)) s') →
      codeAny (model P w) A (.builtin "set.update.loop" ⟨[.ref S, .ref I], []⟩) R s := by
  have hSw : S ∉ wr := fun h => hSf (W.sub _ h)
  have hsub : ∀ b ∈ wr, b ∈ S :: wr := fun b hb => List.mem_cons_of_mem _ hb
  have keepM : ∀ {s s' : Shared}, Moved wr G s s' → (∀ b o, h0.get? b = some o → s.heap.get? b = some o) → ∀ b o, h0.get? b = some o → s'.heap.get? b = some o := fun hm hkp b o e =>
    hm.heap b o (fun hb => by rw [hw0 b hb] at e; cases e) (hkp b o e)
  have sub : ∀ {i : Nat} {L : KL}, GotK ks i L → ∀ p ∈ L, p ∈ ks := fun g p hp => List.mem_of_mem_take (g.sub p hp)
  intro k
  induction k with
  | zero =>
    intro i s hk' hi hst hkp ⟨L, es, ep, t, hS, g⟩ hR
    have hin : i = n := by omega
    subst hin
    refine codeAny_builtin PyProof.Rows.F.entry_set_update_loop ?_
    rw [Around.under_plainId PyProof.Rows.F.plain_set_update_loop _]
    show wpAny _ A.in1 (pyNext (.ref I) >>= _) _ _ s
    refine wpAny_bind (W.done s _ _ hst fun s' hm => ?_)
    show wpAny _ A.in1 (PySem.ret Value.none) _ _ s'
    have hkp' := keepM hm hkp
    exact wpAny_pure (hR s' L es ep t (hm.mono hsub) (hS.keep (fun o e => hm.heap S o hSw e) fun p hp => (hk p (sub g p hp)).keep hkp') g hkp')
  | succ k ih =>
    intro i s hk' hi hst hkp ⟨L, es, ep, t, hS, g⟩ hR
    have hlt : i < n := by omega
    refine codeAny_builtin PyProof.Rows.F.entry_set_update_loop ?_
    rw [Around.under_plainId PyProof.Rows.F.plain_set_update_loop _]
    show wpAny _ A.in1 (pyNext (.ref I) >>= _) _ _ s
    refine wpAny_bind (W.item i s _ _ hlt hst fun v s' hP hst' hm => ?_)
    obtain ⟨p, hp, rfl⟩ := hval i v hP
    have hkp' := keepM hm hkp
    have hS' : SetK w s'.heap S L es ep t := hS.keep (fun o e => hm.heap S o hSw e) fun q hq => (hk q (sub g q hq)).keep hkp'
    have hx : IsK s'.heap p.2 p.1 := (hk p (List.mem_of_getElem? hp)).keep hkp'
    show wpAny _ A.in1 (holding [Value.ref p.1] (setAdd S (.ref p.1)) >>= _) _ _ s'
    refine wpAny_bind (wpAny_holding ?_)
    unfold setAdd
    refine wpAny_holding ?_
    refine wpAny_bind ((nestedKind P w).pyHash hu hx.hk ?_)
    refine add_key (s := { s' with toks := s'.toks + p.2.draws }) hS' hx hu (by have := g.len; omega) fun c h' L' es' ep' t' hsb hS2 c1 c2 => ?_
    have hkp2 : ∀ b o, h0.get? b = some o → h'.get? b = some o := fun b o e => (hsb.2 b (fun z => by rw [z, hS0] at e; cases e)).trans (hkp' b o e)
    refine wpAny_pure ⟨plainId_quiet PyProof.Rows.F.plain_set_update_loop _, ih (i + 1) _ (by omega) hlt (W.frame _ s' _ _ hst' (Nat.le_add_right _ _) fun b hb o e => ?_) hkp2 ⟨L', es', ep', t', hS2, g.step hp c1 c2⟩ fun s'' L2 es2 ep2 t2 hm'' hS'' g'' hkp'' => ?_⟩
    · rw [hsb.2 b (fun h : b = S => hSf (by rw [← h]; exact hb))]; exact e
    · refine hR s'' L2 es2 ep2 t2 (Moved.trans W.gtrans ((hm.mono hsub).then_heap (Nat.le_add_right _ _) fun b o hb e => ?_) hm'') hS'' g'' hkp''
      rw [hsb.2 b (fun h : b = S => hb (by rw [h]; exact List.mem_cons_self))]; exact e
set_option maxHeartbeats 3200000 in
/-- set(xs) -/
theorem call_set_keys {l : Addr} {items : Array Value} (ks : KL) {Q : Value → Shared → Prop} (hh : A.handled = none) (hl : s.heap.IsList l items) (hit : items.toList = ks.map fun p => Value.ref p.1)
    (hk : ∀ p ∈ ks, IsK s.heap p.2 p.1) (hfew : ks.length < 64) (hu : A.units + 16 < cLine)
    (h : ∀ (h' : Heap) (tk : Nat) L es ep t, SetK w h' s.heap.objs.size L es ep t → GotK ks ks.length L → (∀ b o, s.heap.get? b = some o → h'.get? b = some o) → Q (.ref s.heap.objs.size) { s with heap := h', toks := tk }) :
    wpAny (model P w) A (call (.type "set") [.ref l]) Q E s := by
  have hisz : items.size = ks.length := by rw [← Array.length_toList, hit, List.length_map]
  obtain ⟨c, tl, hmro⟩ := PySem.F.called_set.mro
  have hmade := PySem.F.called_set.made
  have hsub := PySem.F.called_set.sub
  refine wpAny_call (codeAny_of_tree ?_)
  show wpAny _ _ (callAny (.type "set") _) _ _ _
  refine wpAny_pure ⟨Code.quiet_builtin _ (by decide +kernel), codeAny_builtin PySem.F.entry_type_call ?_⟩
  rw [Around.under_plain (weight_type_call_type "set" [.ref l] []) rfl]
  have h1 := PySem.F.called_set.notType
  have h2 := PySem.F.called_set.canCreate
  have hct := PySem.F.typeCall_set_1 (.ref l)
  repeat (any_goals (first | assumption | wp_step))
  refine codeAny_mono (code_set_led1 (.ref l) (E := E) (Q₁ := fun obj s₁ => obj = .ref s.heap.objs.size ∧ s₁ = { s with heap := s.heap.push { cls := .type "set", dict := none, data := .set #[] 0 (.fresh 0 0 (!w.params.followText "set-order")) } }) ⟨rfl, rfl⟩) fun r s₁ hr => ?_
  cases r with
  | error e => exact hr
  | ok fl =>
    cases fl with
    | ret obj =>
      obtain ⟨rfl, rfl⟩ := hr
      have hS : (s.heap.push { cls := .type "set", dict := none, data := .set #[] 0 (.fresh 0 0 (!w.params.followText "set-order")) }).get? s.heap.objs.size = some { cls := .type "set", dict := none, data := .set #[] 0 (.fresh 0 0 (!w.params.followText "set-order")) } := Heap.get?_push_size _ rfl
      have hT : Shared.TypeIs { s with heap := s.heap.push { cls := .type "set", dict := none, data := .set #[] 0 (.fresh 0 0 (!w.params.followText "set-order")) } } (.ref s.heap.objs.size) "set" := ⟨_, hS, rfl⟩
      have hli := PySem.F.called_set.init.lookup
      have hbi := PySem.F.called_set.init.bind (.ref s.heap.objs.size)
      repeat (any_goals (first | assumption | wp_step))
      refine codeAny_mono (codeAny_call_builtin (R := wants (fun r s₂ => r = .none ∧ ∃ h' tk L es ep t, s₂ = { s with heap := h', toks := tk } ∧ SetK w h' s.heap.objs.size L es ep t ∧ GotK ks ks.length L ∧
          (∀ b o, s.heap.get? b = some o → h'.get? b = some o)) E) PySem.F.called_set.init.plain PySem.F.entry_set_init (check_set_init_1 hT ?_)) fun r₂ s₂ hr₂ => ?_
      · obtain ⟨ol, hol, hcl, nl, hdl⟩ := hl
        obtain ⟨ocls, odict, odata, oslots⟩ := ol
        simp only at hcl hdl
        subst hcl; subst hdl
        have hol' : (s.heap.push { cls := .type "set", dict := none, data := .set #[] 0 (.fresh 0 0 (!w.params.followText "set-order")) }).get? l = some { cls := .type "list", dict := odict, data := .seq items nl, slots := oslots } := Heap.get?_push_of_some _ hol
        have hsls := PySem.F.sub_list_set
        have hslf := PySem.F.sub_list_frozenset
        have hne : (Value.type "list" == Value.type "dict") = false := by decide
        have hl1 : (s.heap.push { cls := .type "set", dict := none, data := .set #[] 0 (.fresh 0 0 (!w.params.followText "set-order")) }).IsList l items := ⟨_, hol', rfl, nl, rfl⟩
        unfold Builtin.«set.__init__» noKeywords Builtin.Frozenset.updateFrom
        generalize hPI : pyIter = PI
        wp_walk
        subst hPI
        refine wpAny_pyIter_list hl1 ?_
        refine wpAny_bind (wpAny_runValue ?_)
        have hlS : l < s.heap.objs.size := Heap.lt_size hol
        have hh3 : A.in1.in1.in1.handled = none := by simp [hh]
        have hneI : l ≠ (s.heap.push { cls := .type "set", dict := none, data := .set #[] 0 (.fresh 0 0 (!w.params.followText "set-order")) }).objs.size := by
          rw [Heap.size_push]; exact Nat.ne_of_lt (Nat.lt_succ_of_lt hlS)
        have hSf : s.heap.objs.size ∉ [(s.heap.push { cls := .type "set", dict := none, data := .set #[] 0 (.fresh 0 0 (!w.params.followText "set-order")) }).objs.size, l] := by
          rw [Heap.size_push]; simp only [List.mem_cons, List.mem_singleton, List.not_mem_nil, or_false, not_or]
          exact ⟨Nat.ne_of_lt (Nat.lt_succ_self _), Nat.ne_of_gt hlS⟩
        have hval : ∀ (i : Nat) (v : Value), items[i]? = some v → ∃ p, ks[i]? = some p ∧ v = .ref p.1 := fun i v hv => by
          have q : items.toList[i]? = some v := by rw [Array.getElem?_toList]; exact hv
          rw [hit, List.getElem?_map] at q
          cases hq : ks[i]? with
          | none => rw [hq] at q; cases q
          | some p =>
            rw [hq] at q
            exact ⟨p, rfl, (Option.some.inj q).symm⟩
        have none_of : ∀ b, s.heap.objs.size ≤ b → s.heap.get? b = none := fun b hb => by
          cases q : s.heap.get? b with
          | none => rfl
          | some o => exact absurd (Nat.lt_of_lt_of_le (Heap.lt_size q) hb) (Nat.lt_irrefl _)
        refine upd_keys ((Walks.list hh3 _ l hneI items).toS) s.heap.objs.size
          hSf ks hisz hfew hval s.heap hk (none_of _ (Nat.le_refl _)) (fun b hb => none_of b (by
            rw [List.mem_singleton.mp hb, Heap.size_push]
            exact Nat.le_succ _)) (by simp only [Around.in1_units]; omega) (items.size - 0) 0 _ (by omega) (Nat.zero_le _)
          ⟨⟨_, Heap.get?_push_size _ rfl, rfl, rfl⟩, (hl1.push _)⟩ (fun b o e => Heap.get?_push_of_some _ (Heap.get?_push_of_some _ e)) ?hS0 ?hR
        case hS0 => exact ⟨[], #[], 0, _, setK_new (Heap.get?_push_of_some _ hS), ⟨fun p h => (by cases h), fun p h => (by simp at h), Nat.le_refl _⟩⟩
        case hR =>
          intro s' L es ep t hm hS' g' hkp
          obtain ⟨h', g2, d', tk', os'⟩ := s'
          have eg : g2 = s.gens := hm.gens
          have ed : d' = s.drawn := hm.drawn
          have eo : os' = s.os := hm.os
          subst eg; subst ed; subst eo
          show wpAny _ _ _ _ _ _
          refine wpAny_pure ?_
          show wpAny _ _ (PySem.ret Value.none) _ _ _
          rw [hisz] at g'
          exact wpAny_pure ⟨rfl, h', tk', L, es, ep, t, rfl, hS', g', hkp⟩
      · cases r₂ with
        | error e => exact hr₂
        | ok fl₂ =>
          cases fl₂ with
          | ret r =>
            obtain ⟨rfl, h', tk, L, es, ep, t, rfl, hS', g', hk'⟩ := hr₂
            repeat (any_goals (first | assumption | wp_step))
            exact h _ _ _ _ _ _ hS' g' hk'
          | _ => exact hr₂.elim
    | _ => exact hr.elim
end
end Ev

set_option Elab.async false
set_option linter.all false
set_option maxRecDepth 100000
set_option autoImplicit false
/-! EvSet6: sorted(set(xs)), the rule. -/
namespace Ev
open PySem PySem.Spec PyProof.Rows L2
/-- a permutation of an image comes from a permutation -/
theorem perm_of_map {α β : Type} (f : α → β) : ∀ {l : List α} {m : List β}, m.Perm (l.map f) → ∃ l' : List α, l'.Perm l ∧ m = l'.map f := by
  intro l m h
  have key : ∀ {m k : List β}, m.Perm k → ∀ l : List α, k = l.map f → ∃ l' : List α, l'.Perm l ∧ m = l'.map f := by
    intro m k h
    induction h with
    | nil => intro l e; cases l with
      | nil => exact ⟨[], .nil, rfl⟩
      | cons _ _ => cases e
    | cons x _ ih => intro l e; cases l with
      | nil => cases e
      | cons a l =>
        cases e
        obtain ⟨l', p, e'⟩ := ih l rfl
        exact ⟨a :: l', p.cons a, by rw [List.map_cons, e']⟩
    | swap x y k => intro l e; cases l with
      | nil => cases e
      | cons a l => cases l with
        | nil => cases e
        | cons c l =>
          cases e
          exact ⟨c :: a :: l, .swap _ _ _, rfl⟩
    | trans _ _ ih1 ih2 =>
      intro l e
      obtain ⟨l2, p2, e2⟩ := ih2 l e
      obtain ⟨l1, p1, e1⟩ := ih1 l2 e2
      exact ⟨l1, p1.trans p2, e1⟩
  exact key h l rfl
def adV : V → Addr
  | .ref a => a
  | _ => 0
/-- the rows chosen among the pairs -/
theorem rows_pairs {ps : List (V × D)} : ∀ {L : KL}, (∀ p ∈ L, p ∈ ps.map fun q => (adV q.1, keyOf q.2)) → ∃ qs : List (V × D), L = qs.map (fun q => (adV q.1, keyOf q.2)) ∧ ∀ q ∈ qs, q ∈ ps
  | [], _ => ⟨[], rfl, fun _ h => nomatch h⟩
  | p :: L, h => by
    obtain ⟨qs, e1, e2⟩ := rows_pairs (L := L) fun q hq => h q (List.mem_cons_of_mem _ hq)
    obtain ⟨q, hq, e⟩ := List.mem_map.mp (h p List.mem_cons_self)
    refine ⟨q :: qs, by rw [List.map_cons, e1, e], fun q' hq' => ?_⟩
    rcases List.mem_cons.mp hq' with z | z
    · rw [z]; exact hq
    · exact e2 q' z
section
variable {X : Cx} {b : Bx} {pins : List (Addr × Obj)} {σ : L2.St} {s : Shared}
theorem rep_tup_ref {z : Zt} {m : Mu} {F : Fz} {H : Hp} {v : V} {d : D} (ht : isTup d = true) (r : Rep z m F H v d) : v = .ref (adV v) := by
  cases d with
  | tuple xs => cases r; rfl
  | _ => cases ht
theorem sset_core (hc : X.calm = true) (hu : X.A.units + 100 < cLine) {H : Hp} {Q : VK} {m : Mu} {F : Fz} {w : W} {a : Addr} {vs : List V} {ds : List D} (I : Inv X pins σ H s) (wf : Wf b.z m F w H) (ha : H a = some (.lst vs)) (hr : RepAll b.z m F H vs ds)
    (h1 : ∀ d ∈ ds, isTup d = true ∧ nkOk d = true ∧ d.depth ≤ 8) (h2 : ds.length < 64) (h3 : sortOk ds = true)
    (p : Post b m F H (.ok (.list (sortD (dedD ds))) w) (Rep b.z) Q) :
    wpAny (model X.prog X.w) X.A (call (.type "set") [.ref a]) (fun u s' => wpAny (model X.prog X.w) X.A (call (.builtin "sorted") [u]) (EP X pins σ Q) X.xe s') X.xe s := by
  obtain ⟨al, srt, sh⟩ := sortable_of h3
  obtain ⟨ps, e1, e2, e3⟩ := hr.pairs
  subst e1
  subst e2
  obtain ⟨its, rv, hl, hz⟩ := I.list (X := X) (.inl (.inl ha))
  have hh : X.A.handled = none := I.ok.hd hc
  have dOk : ∀ q ∈ ps, isTup q.2 = true ∧ nkOk q.2 = true ∧ q.2.depth ≤ 8 := fun q hq => h1 _ (List.mem_map.mpr ⟨q, hq, rfl⟩)
  have refs : ∀ q ∈ ps, q.1 = .ref (adV q.1) := fun q hq => rep_tup_ref (dOk q hq).1 (e3 q hq)
  have dp : ∀ q ∈ ps, Dp X.K H q.1 q.2 := fun q hq => (e3 q hq).dp (SeqAt.canLay_of_shaped (sh _ (List.mem_map.mpr ⟨q, hq, rfl⟩)))
  have hit : its = (ps.map fun q => (adV q.1, keyOf q.2)).map fun p => Value.ref p.1 := by
    rw [List.map_map]
    have key : ∀ {l : List (V × D)} {us : List Value}, (∀ q ∈ l, q.1 = .ref (adV q.1)) → Vals (l.map (·.1)) us → us = l.map fun q => Value.ref (adV q.1) := by
      intro l
      induction l with
      | nil => intro us _ h; cases h; rfl
      | cons q l ih =>
        intro us hq h
        rw [List.map_cons] at h
        cases h with
        | cons r t =>
          have e := hq q List.mem_cons_self
          rw [e] at r
          rw [List.map_cons, ← ih (fun q' hq' => hq q' (List.mem_cons_of_mem _ hq')) t, show _ = Value.ref (adV q.1) from r]
    exact key refs rv
  have isk : ∀ (s' : Shared) (I' : Inv X pins σ H s') q, q ∈ ps → IsK s'.heap (keyOf q.2) (adV q.1) := fun s' I' q hq => by
    obtain ⟨t1, t2, t3⟩ := dOk q hq
    have hq1 := refs q hq
    obtain ⟨as, hrd⟩ := Dp.reads I' q.2 q.1 (.ref (adV q.1)) (dp q hq) (by rw [hq1]; rfl)
    obtain ⟨k1, k2⟩ := keyOf_only q.2 t2
    exact ⟨keyOf_is q.2 _ as t2 hrd, by rw [k2]; exact t3, k1⟩
  rw [List.length_map] at h2 hz
  refine call_set_keys (w := X.w) (ps.map fun q => (adV q.1, keyOf q.2)) hh hl.isList (by simpa using hit) (fun q hq => ?_) (by rw [List.length_map]; exact h2) (by omega) fun h' tk L es ep t R g k => ?_
  · obtain ⟨q', hq', rfl⟩ := List.mem_map.mp hq
    exact isk s I q' hq'
  have I1 : Inv X pins σ H { s with heap := h', toks := tk } := I.kept (t' := tk) k
  have gsub : ∀ q ∈ L, q ∈ ps.map fun q => (adV q.1, keyOf q.2) := fun q hq => List.mem_of_mem_take (g.sub q hq)
  obtain ⟨qs, eL, hqs⟩ := rows_pairs gsub
  obtain ⟨o, ho, hex, hd⟩ := R.ob
  have hsz := rows_len R.rows
  have hfew := R.few
  refine Calls.call_function_entry kind_sorted plain_sorted entry_sorted (args_sorted1 _) ?_
  unfold Builtin.«sorted»
  refine wpAny_bind (m := checkCount "sorted" 1 1 _) (wpAny_pure ?_)
  refine wpAny_bind (collect_set (w := X.w) (A := X.A.in1) hh ⟨o, ho, hex.1, hd⟩ R.fits (by unfold scanBound; omega) R.tab.ris R.led fun s2 us k2 hz2 g2 o2 pm => ?_)
  have hes : es.toList.map (·.2) = qs.map fun q => Value.ref (adV q.1) := by
    rw [R.rows, eL, List.map_map, List.map_map]
    rfl
  rw [hes] at pm
  obtain ⟨qs', pq, eus⟩ := perm_of_map _ pm
  have hus : us.length < 64 := by rw [eus, List.length_map, pq.length_eq, ← List.length_map (f := fun q : V × D => (adV q.1, keyOf q.2)), ← eL]; exact hfew
  have mem' : ∀ q ∈ qs', q ∈ ps := fun q hq => hqs q (pq.mem_iff.mp hq)
  refine wpAny_bind (wpAny_newList ?_ (by rw [sizeLine_eq]; omega))
  have hoL : (s2.heap.push (seqObj "list" us.toArray 0)).get? s2.heap.objs.size = some (seqObj "list" us.toArray 0) := Heap.get?_push_size _ rfl
  -- what is kept at each stage
  have kk : ∀ c ob, s.heap.get? c = some ob → (s2.heap.push (seqObj "list" us.toArray 0)).get? c = some ob := fun c ob e => Heap.get?_push_of_some _ (k2 c ob (k c ob e))
  have Ik : Inv X pins σ H { s with heap := s2.heap.push (seqObj "list" us.toArray 0), toks := s2.toks } := I.kept (t' := s2.toks) kk
  have each : PySem.W.EachIs (fun u (q : V × D) => RelV q.1 u) us qs' := by
    rw [eus]
    have key : ∀ l : List (V × D), (∀ q ∈ l, q ∈ ps) → PySem.W.EachIs (fun u (q : V × D) => RelV q.1 u) (l.map fun q => Value.ref (adV q.1)) l := by
      intro l
      induction l with
      | nil => intro _; exact .nil
      | cons q l ih =>
        intro h
        refine .cons ?_ (ih fun q' hq' => h q' (List.mem_cons_of_mem _ hq'))
        have e := refs q (h q List.mem_cons_self)
        show RelV q.1 (Value.ref (adV q.1))
        generalize hx : adV q.1 = x at e
        rw [e]
        rfl
    exact key qs' mem'
  have er : PySem.W.EachIs (fun u (q : V × D) => ∃ as', Reads (s2.heap.push (seqObj "list" us.toArray 0)) u q.2 as' ∧ s2.heap.objs.size ∉ as') us qs' := by
    refine (PySem.W.each_mem each).mono fun u q ⟨ru, hq⟩ => ?_
    obtain ⟨as, hrd⟩ := Dp.reads Ik q.2 q.1 u (dp q (mem' q hq)) ru
    refine ⟨[], ?_, by simp⟩
    -- tuples of ints alone are read without any list
    have key : ∀ n : Nat, (∀ (x : D) (v : Value) (as : List Addr), sizeOf x ≤ n → nkOk x = true → Reads (s2.heap.push (seqObj "list" us.toArray 0)) v x as → as = []) ∧ ∀ (xs : List D) (vs : List Value) (as : List Addr), sizeOf xs ≤ n → nkAll xs = true → ReadsAll (s2.heap.push (seqObj "list" us.toArray 0)) vs xs as → as = [] := by
      intro n
      induction n with
      | zero =>
        refine ⟨fun x v as hn => ?_, fun xs vs as hn => ?_⟩
        · cases x <;> simp at hn
        · cases xs <;> simp at hn
      | succ n ih =>
        have one : ∀ (x : D) (v : Value) (as : List Addr), sizeOf x ≤ n + 1 → nkOk x = true → Reads (s2.heap.push (seqObj "list" us.toArray 0)) v x as → as = [] := fun x v as hn hk r => by
          cases r with
          | int => rfl
          | tuple k1 k2 k3 k4 => exact ih.2 _ _ _ (by simp at hn; omega) hk k4
          | _ => simp [nkOk] at hk
        refine ⟨one, fun xs vs as hn hk r => ?_⟩
        cases r with
        | nil => rfl
        | cons k1 k2 =>
          rw [nkAll, Bool.and_eq_true] at hk
          simp at hn
          rw [ih.1 _ _ _ (by omega) hk.1 k1, ih.2 _ _ _ (by omega) hk.2 k2]
          rfl
    have e := (key (sizeOf q.2)).1 q.2 u as (Nat.le_refl _) (dOk q (mem' q hq)).2.1 hrd
    rw [e] at hrd
    exact hrd
  have hle : qs'.length ≤ sizeLine := by
    have : us.length = qs'.length := by rw [eus, List.length_map]
    rw [sizeLine_eq]
    omega
  refine wpAny_bind (wpAny_holding (PySem.W.list_sort_data (s := { s2 with heap := s2.heap.push (seqObj "list" us.toArray 0) }) (A := X.A.in1) (enc := fun q : V × D => q.2) hoL each er ?_ ?_ hle ?_ fun out hlen hout => ?_))
  · intro x hx y hy
    obtain ⟨q, hq, rfl⟩ := List.mem_map.mp hx
    obtain ⟨q', hq', rfl⟩ := List.mem_map.mp hy
    exact al _ (List.mem_map.mpr ⟨q, mem' q hq, rfl⟩) _ (List.mem_map.mpr ⟨q', mem' q' hq', rfl⟩)
  · rcases srt with q | q
    · exact .inl fun d hd => by
        obtain ⟨q', hq', rfl⟩ := List.mem_map.mp hd
        exact q _ (List.mem_map.mpr ⟨q', mem' q' hq', rfl⟩)
    · exact .inr fun d hd => by
        obtain ⟨q', hq', rfl⟩ := List.mem_map.mp hd
        exact q _ (List.mem_map.mpr ⟨q', mem' q' hq', rfl⟩)
  · intro q hq
    have := (dOk q (mem' q hq)).2.2
    show X.A.units + 1 + 1 + q.2.depth < cLine
    omega
  -- behind the sort
  generalize hms : qs'.mergeSort (PySem.W.dataLe false fun q : V × D => q.2) = zs at hout
  have zmem : ∀ q ∈ zs, q ∈ ps := fun q hq => by rw [← hms] at hq; exact mem' q (List.mem_mergeSort.mp hq)
  have zl : zs.length = qs'.length := by rw [← hms, List.length_mergeSort]
  have hdata : zs.map (·.2) = sortD (dedD (ps.map (·.2))) := by
    have nk : ∀ x ∈ ps.map (·.2), nkOk x = true := fun x hx => (h1 x hx).2.1
    have pz : zs.Perm qs := by rw [← hms]; exact (List.mergeSort_perm _ _).trans pq
    refine sorted_ded nk (fun x hx y hy => al x hx y hy) ?_ (fun x => ?_) ?_
    · have e : zs.map (·.2) = (qs'.map (·.2)).mergeSort leS := by
        rw [← hms]
        exact PySem.W.sort_maps (fun q : V × D => q.2) fun _ _ _ _ => rfl
      rw [e]
      exact PySem.W.sort_pairwise leS_total _
    · constructor
      · intro hx
        obtain ⟨q, hq, rfl⟩ := List.mem_map.mp hx
        exact List.mem_map.mpr ⟨q, zmem q hq, rfl⟩
      · intro hx
        obtain ⟨q, hq, rfl⟩ := List.mem_map.mp hx
        have hk := g.all (adV q.1, keyOf q.2) (by rw [List.take_length]; exact List.mem_map.mpr ⟨q, hq, rfl⟩)
        rw [eL, List.map_map] at hk
        obtain ⟨q2, hq2, e2⟩ := List.mem_map.mp hk
        have e3 : q2.2 = q.2 := keyOf_inj _ _ (dOk q2 (hqs q2 hq2)).2.1 (dOk q hq).2.1 e2
        rw [← e3]
        exact List.mem_map.mpr ⟨q2, pz.mem_iff.mpr hq2, rfl⟩
    · refine (pz.map (·.2)).nodup_iff.mpr ?_
      have nd := R.nd
      rw [eL, List.map_map] at nd
      rw [List.Nodup, List.pairwise_map] at nd ⊢
      exact nd.imp fun h e => h (congrArg keyOf e)
  obtain ⟨cc, hcc⟩ := sortedHeap_at (vs := us) (out := List.toArray out) hoL
  have rv' := each_vals hout
  have hn : H s2.heap.objs.size = none := I.hok.fresh (Nat.le_trans (Nat.le_of_lt (by
    have := Heap.lt_size ho
    have h0 : s.heap.objs.size < h'.objs.size := this
    exact h0)) hz2)
  have kF : ∀ c ob, s.heap.get? c = some ob → (sortedHeap (s2.heap.push (seqObj "list" us.toArray 0)) s2.heap.objs.size us (List.toArray out)).get? c = some ob := fun c ob e => by
    have q := k2 c ob (k c ob e)
    have hlt := Heap.lt_size q
    rw [sortedHeap_old (Nat.ne_of_lt hlt) (by rw [size_push']; exact Nat.lt_succ_of_lt hlt)]
    exact Heap.get?_push_of_some _ q
  have hsz2 : s.heap.objs.size ≤ s2.heap.objs.size := by
    have h0 : s.heap.objs.size < h'.objs.size := Heap.lt_size ho
    exact Nat.le_trans (Nat.le_of_lt h0) hz2
  have hlenz : (zs.map (·.1)).length ≤ sizeLine := by rw [List.length_map, zl]; exact hle
  have J : Inv X pins σ (upd H s2.heap.objs.size (.lst (zs.map (·.1)))) { s with heap := sortedHeap (s2.heap.push (seqObj "list" us.toArray 0)) s2.heap.objs.size us (List.toArray out), gens := s2.gens, drawn := s2.drawn, toks := s2.toks } :=
    I.call (ch := []) (Un.laid kF hsz2 hn) (I.hok.laid kF hsz2 ⟨hlenz, out, cc, rv', by simpa using hcc⟩) (by rw [show s2.gens = s.gens from g2]; exact I.bare) (fun _ z => nomatch z)
  have es2 : ({ s2 with heap := sortedHeap (s2.heap.push (seqObj "list" us.toArray 0)) s2.heap.objs.size us (List.toArray out) } : Shared) = { s with heap := sortedHeap (s2.heap.push (seqObj "list" us.toArray 0)) s2.heap.objs.size us (List.toArray out), gens := s2.gens, drawn := s2.drawn, toks := s2.toks } := by
    have o2' : s2.os = s.os := o2
    cases s2
    cases s
    cases o2'
    rfl
  refine wpAny_pure ⟨_, rfl, ?_⟩
  show EP X pins σ Q (.ref s2.heap.objs.size) _
  rw [es2]
  refine ⟨.ref s2.heap.objs.size, _, J, rfl, ?_⟩
  have hr' : RepAll b.z m F H (zs.map (·.1)) (sortD (dedD (ps.map (·.2)))) := by
    rw [← hdata]
    exact RepAll.of_pairs fun q hq => e3 q (zmem q hq)
  exact p.lst wf hr' _ hn
end
section
variable {T : Tb} {fd : Nat → FuncData} {ca : Nat → Addr} {b : Bx} {cf : CF} {k fu : Nat} {X : Cx} {N : List Str} {sc : Scope} {fv : Str → Bool} (O : Ok T fd ca b cf k X N sc fv)
include O
variable {a : Expr} {ca1 : E} {p1 p2 p3 pos : Pos}
theorem g_sset (ha : PE X a (rR b (evE cf ca1))) (h : bB T sc "sorted" = true := by decide +kernel) (h2 : bB T sc "set" = true := by decide +kernel) (hs : notStar a = true := by rfl) : PE X (.Call (.Name "sorted" p1) [.Call (.Name "set" p2) [a] [] p3] [] pos) (rE b (evE cf (.bi .sset ca1))) := by
  have hs1 : starEach [.Call (.Name "set" p2) [a] [] p3] X.env = (false, eval (.Call (.Name "set" p2) [a] [] p3) X.env) :: starEach [] X.env := rfl
  refine ⟨fun pins s σ H Q I hq => ?_⟩
  obtain ⟨m, F, s', w, wf, sl, p⟩ := hq
  have p : Post b m F H (bnd (evE cf ca1 s') (fun x => lift (biD .sset x)) w) (Rep b.z) Q := by simpa only [evE] using p
  refine wpAny_Call_Name_kw (ld_blt I (O.blt h).1 (O.blt h).2.1 rfl ?_ (by decide) (by decide))
  refine PyProof.Rows.callWith_builtin1 ?_ hs1 rfl
  rw [hs1]
  show wpAny _ _ (spliced ((false, eval (.Call (.Name "set" p2) [a] [] p3) X.env) :: backTo pos (starEach [] X.env))) _ _ s
  refine Calls.spliced_cons ?_
  refine wpAny_Call_Name_kw (ld_blt I (O.blt h2).1 (O.blt h2).2.1 rfl ?_ (by decide) (by decide))
  refine PyProof.Rows.callWith_type1 (thn ((pa_cons ha pa_nil (star_cons hs)).run p3 pins s σ H (fun vs H1 => ∃ m1 F1 w1 v d, vs = [v] ∧ Wf b.z m1 F1 w1 H1 ∧ RepR b.z m1 F1 H1 v d ∧ Post b m1 F1 H1 (lift (ssetD d) w1) (Rep b.z) Q) I
    ⟨m, F, s', w, wf, sl, (p.bind).imp fun v H1 ⟨m1, F1, d, w1, f1, wf1, r1, p1⟩ => ⟨m1, F1, w1, v, d, rfl, wf1, r1, p1⟩⟩) fun us s1 ⟨vs, H1, I1, rv, m1, F1, w1, v, d, ev, wf1, r1, p1⟩ => ?_) (star_cons hs) rfl
  subst ev
  obtain ⟨d', e, p2⟩ := p1.lift1
  unfold ssetD at e
  split at e
  · rename_i xs
    split at e
    · rename_i hc
      cases e
      simp only [Bool.and_eq_true, List.all_eq_true, decide_eq_true_eq] at hc
      obtain ⟨⟨hc1, hc2⟩, hc3⟩ := hc
      obtain ⟨l, vs, rfl, hl, hr⟩ := r1.list
      rw [Vals.ref1 rv]
      refine wpAny_mono (sset_core O.calm (by have := O.un; omega) I1 wf1 hl hr (fun d hd => ⟨(hc1 d hd).1.1, (hc1 d hd).1.2, (hc1 d hd).2⟩) hc2 hc3 p2) (fun u s2 hq => Calls.spliced_nil hq) fun _ _ x => x
    · cases e
  · cases e
end
end Ev

set_option Elab.async false
set_option linter.all false
set_option maxRecDepth 100000
set_option autoImplicit false
/-! EvPar: a, b = (e, f). -/
namespace Ev
open PySem PySem.Spec PyProof.Rows L2
/-- a reading: for a slot of its own, or frozen -/
def rX (m : Bool) (b : Bx) (f : Sl → M D) : TE := if m then rF b f else rE b f
def RlX (m : Bool) (z : Zt) (Hs : Hp) : Mu → Fz → Hp → V → D → Prop := if m then FreshR z Hs else Rep z
theorem rX_of {m : Bool} {b : Bx} {f : Sl → M D} {σ : L2.St} {H : Hp} {Q : VK} (h : ∃ mu F s w, Wf b.z mu F w H ∧ SlR b.z mu F b.H0 s σ H ∧ Post b mu F H (f s w) (RlX m b.z H) Q) : rX m b f σ H Q := by
  cases m with
  | true => exact h
  | false => exact h
section
variable {z : Zt} {m m' : Mu} {F F' : Fz} {H H' Hs : Hp} {w : W} {v : V} {d : D}
theorem FreshR.fm (h : FreshR z Hs m F H v d) (wf : Wf z m F w H) (f : Fm m F H m' F' H') : FreshR z Hs m' F' H' v d := by
  obtain ⟨a, e, hn, nF, nM, hc⟩ := h
  have ho : ∃ o, H a = some o := by
    rcases hc with ⟨vs, ds, _, h1, _⟩ | ⟨ks, kvs, _, h1, _⟩
    · exact ⟨_, h1⟩
    · exact ⟨_, h1⟩
  obtain ⟨o, ho⟩ := ho
  refine ⟨a, e, hn, fun hF => ?_, f.out ho nM, ?_⟩
  · rcases f.fnew a hF with q | q
    · exact nF q
    · rw [ho] at q; cases q
  · rcases hc with ⟨vs, ds, ed, h1, h2⟩ | ⟨ks, kvs, ed, h1, h2⟩
    · exact .inl ⟨vs, ds, ed, f.keep a _ h1 nM, wf.repAll f h2⟩
    · exact .inr ⟨ks, kvs, ed, f.keep a _ h1 nM, wf.repD f h2⟩
theorem RlX.fm {mm : Bool} (h : RlX mm z Hs m F H v d) (wf : Wf z m F w H) (f : Fm m F H m' F' H') : RlX mm z Hs m' F' H' v d := by
  cases mm with
  | true => exact FreshR.fm (show FreshR z Hs m F H v d from h) wf f
  | false => exact wf.rep f (show Rep z m F H v d from h)
/-- a slot gets it -/
theorem SlR.put {mm : Bool} {H0 : Hp} {s : Sl} {σ : L2.St} {i : Nat} {sv : SV} (x : SlR z m F H0 s σ H) (hi : i < s.length) (hv : slotV mm d = some sv) (r : RlX mm z Hs m F H v d) (h0 : ∀ a, Hs a = none → H0 a = none) (ne : ∀ j a, j ≠ i → isMut s j → Hs a = none → σ[j]? ≠ some (some (.ref a))) : SlR z m F H0 (s.set i (some sv)) (σ.set i (some v)) H := by
  cases mm with
  | false =>
    cases hv
    exact x.setI r hi
  | true =>
    obtain ⟨a, rfl, hn, nF, nM, hc⟩ := (show FreshR z Hs m F H v d from r)
    have hv : mutS d = some sv := hv
    have ho : OwnR z m F H a sv := by
      rcases hc with ⟨vs, ds, rfl, h1, h2⟩ | ⟨ks, kvs, rfl, h1, h2⟩
      · cases hv
        exact ⟨vs, h1, h2⟩
      · cases hv
        exact ⟨ks, h1, h2⟩
    exact x.setM hi ho nF nM (h0 a hn) fun j hj hm => ne j a hj hm hn
end
section
variable {X : Cx} {b : Bx} {cf : CF} {fu : Nat} {e1 e2 : Expr} {c1 c2 : E} {m1 m2 : Bool} {i j : Nat}
theorem par_core (hij : i ≠ j) {D : Ends} {σ : L2.St} {H : Hp} {R : List V → Hp → Prop} (h : rS b (evS cf fu (.par i j m1 m2 c1 c2)) D σ H)
    (hR : ∀ v w H2, (∀ H3, (∀ a o, H2 a = some o → H3 a = some o) → D.nx ((σ.set i (some v)).set j (some w)) H3) → R [v, w] H2) : tCons (rX m1 b (evE cf c1)) (tCons (rX m2 b (evE cf c2)) tNil) σ H R := by
  obtain ⟨m, F, s, w, rel, p⟩ := h
  have p : PostS b m F H (bnd (evE cf c1 s) (fun x => bnd (evE cf c2 s) fun y => bnd (lift (slotV m1 x)) fun u => bnd (lift (slotV m2 y)) fun v => if i < s.length ∧ j < s.length then ret (.nx ((s.set i (some u)).set j (some v))) else bad) w) D := by simpa only [evS] using p
  refine rX_of ⟨m, F, s, w, rel.wf, rel.sl, (p.bind rel.fm rel.wf).imp fun v H1 ⟨m3, F3, d1, w3, f1, wf1, r1, p1⟩ => ?_⟩
  have rel1 := rel.step f1 wf1
  refine rX_of ⟨m3, F3, s, w3, wf1, rel1.sl, (p1.bind rel1.fm rel1.wf).imp fun u H2 ⟨m4, F4, d2, w4, f2, wf2, r2, p2⟩ => ?_⟩
  have rel2 := rel1.step f2 wf2
  obtain ⟨sv1, k1, p3⟩ := p2.lift
  obtain ⟨sv2, k2, p4⟩ := p3.lift
  by_cases hl : i < s.length ∧ j < s.length
  · rw [if_pos hl] at p4
    refine hR v u H2 fun H3 hk => ?_
    have r1' := RlX.fm r1 wf1 f2
    have no0 : ∀ a, H a = none → b.H0 a = none := fun a ha => rel.fm.unlaid ha
    have no1 : ∀ a, H1 a = none → b.H0 a = none := fun a ha => no0 a (f1.unlaid ha)
    have there : ∀ k a, isMut s k → σ[k]? = some (some (.ref a)) → H a ≠ none := fun k a hm hc hn => by
      obtain ⟨o, ho⟩ := rel.sl.there hm hc
      rw [hn] at ho
      cases ho
    have s1 := rel2.sl.put hl.1 k1 r1' no0 fun k a hk hm hn hc => there k a hm hc hn
    have s2 := s1.put (i := j) (by rw [List.length_set]; exact hl.2) k2 r2 no1 fun k a hk hm hn hc => by
      by_cases hki : k = i
      · subst hki
        rw [List.getElem?_set_self (by rw [← rel.sl.len]; exact hl.1)] at hc
        cases hc
        -- the slot's object stood before the second was made
        cases m1 with
        | false =>
          cases k1
          rcases hm with ⟨xs, e⟩ | ⟨xs, e⟩
          · rw [List.getElem?_set_self hl.1] at e; cases e
          · rw [List.getElem?_set_self hl.1] at e; cases e
        | true =>
          obtain ⟨a', e, hn', nF, nM, hc'⟩ := (show FreshR b.z H m3 F3 H1 (.ref a) d1 from r1)
          cases e
          rcases hc' with ⟨vs, ds, _, g1, _⟩ | ⟨ks, kvs, _, g1, _⟩
          · rw [hn] at g1; cases g1
          · rw [hn] at g1; cases g1
      · rw [List.getElem?_set_ne (Ne.symm hki)] at hc
        exact there k a (isMut_setM hm hki) hc (f1.unlaid hn)
    have rel3 : RelS b m4 F4 ((s.set i (some sv1)).set j (some sv2)) w4 ((σ.set i (some v)).set j (some u)) H2 := ⟨wf2, s2, rel2.fm⟩
    have f3 : Fm m4 F4 H2 m4 F4 H3 := ⟨fun a o e _ => hk a o e, fun a o e => ⟨o, hk a o e⟩, fun _ h => .inl h, fun _ _ h => h, fun _ h => h, fun _ h => .inl h⟩
    have wf3 : Wf b.z m4 F4 w4 H3 := wf2.more (fun _ h => h) hk fun a hF => ⟨.inl hF, by
      obtain ⟨o, e⟩ := wf2.dom a hF
      exact ⟨o, hk a o e⟩⟩
    exact p4 m4 F4 H3 _ (wf2.fk f3) (rel3.step f3 wf3)
  · rw [if_neg hl] at p4
    exact p4.elim
variable {x y : Str} {px py pt pt2 pos : Pos} {kt k2 : Nat}
theorem ss_par (hc : X.calm = true) (hN : X.N.Nodup) (hi : X.N[i]? = some x) (hj : X.N[j]? = some y) (hij : i ≠ j) (hx : X.env.scope.names.lookup x = some .local) (hy : X.env.scope.names.lookup y = some .local)
    (h1 : PE X e1 (rX m1 b (evE cf c1))) (h2 : PE X e2 (rX m2 b (evE cf c2))) (n1 : notStar e1 = true) (n2 : notStar e2 = true)
    (hw : swappedStores [.Tuple [.Name x px, .Name y py] kt pt] (.Tuple [e1, e2] k2 pt2) X.env = pure (some [x, y])) : PS X (.Assign [.Tuple [.Name x px, .Name y py] kt pt] (.Tuple [e1, e2] k2 pt2) pos) (rS b (evS cf fu (.par i j m1 m2 c1 c2))) :=
  (ps_par hc hN hi hj hij hx hy (pa_cons h1 (pa_cons h2 pa_nil (star_cons n2)) (star_cons n1)) hw rfl).imp fun D σ H h => par_core hij h fun v u H2 q => ⟨v, u, rfl, q H2 fun _ _ h => h⟩
/-- by way of the tuple itself -/
theorem ss_parC (hc : X.calm = true) (hN : X.N.Nodup) (hi : X.N[i]? = some x) (hj : X.N[j]? = some y) (hij : i ≠ j) (lx : Loc X.env.scope x) (ly : Loc X.env.scope y) (fx : X.fn x = true ∨ X.env.scope.names.lookup x = some .local) (fy : X.fn y = true ∨ X.env.scope.names.lookup y = some .local)
    (h1 : PE X e1 (rX m1 b (evE cf c1))) (h2 : PE X e2 (rX m2 b (evE cf c2))) (n1 : notStar e1 = true) (n2 : notStar e2 = true)
    (hw : swappedStores [.Tuple [.Name x px, .Name y py] kt pt] (.Tuple [e1, e2] k2 pt2) X.env = pure none) : PS X (.Assign [.Tuple [.Name x px, .Name y py] kt pt] (.Tuple [e1, e2] k2 pt2) pos) (rS b (evS cf fu (.par i j m1 m2 c1 c2))) :=
  (ps_asg (pe_tup (pa_cons h1 (pa_cons h2 pa_nil (star_cons n2)) (star_cons n1))) (pg_tup hc (pgs_cons (pg_name hN hi lx fx) (pgs_cons (pg_name hN hj ly fy) pgs_nil))) rfl hw rfl).imp fun D σ H h => by
    unfold tAsg tTup
    refine par_core hij h fun v u H2 q => ?_
    refine ⟨(by rw [sizeLine_eq]; show 2 ≤ 16777216; omega), fun a ha => ?_⟩
    refine ⟨a, [v, u], rfl, .inl (.inl upd_same), rfl, v, [u], rfl, u, [], rfl, rfl, ?_⟩
    exact q _ fun c o e => by rw [upd_ne (ne_of_none e ha)]; exact e
end
/-! ### over the bundle -/
def twoL (sc : Scope) (x y : Str) (px py : Pos) (a b : Expr) : Bool := lclB sc x && lclB sc y && (py.line == px.line) && !(y == x) && !([a, b].all (foldedForSure 8)) && !([a, b].all (constantsAlone 8)) && notStar a && notStar b
def oneC (sc : Scope) (x y : Str) (px py : Pos) (a b : Expr) : Bool := (!(lclB sc x) || !(lclB sc y) || !(py.line == px.line) || [a, b].all (foldedForSure 8)) && !(y == x) && notStar a && notStar b
theorem lcl_beq {sc : Scope} {x : Str} : (sc.names.lookup x == some .local) = lclB sc x := by
  unfold lclB
  cases e : sc.names.lookup x with
  | none => rfl
  | some k => cases k <;> rfl
theorem star_m : ∀ {e : Expr}, notStar e = true → (match e with | .Starred .. => true | _ => false) = false := by
  intro e h
  cases e <;> first | rfl | (exact absurd h (by simp [notStar]))
theorem two_dups {x y : Str} (h : (y == x) = false) : ([x, y].eraseDups) = [x, y] := by
  rw [List.eraseDups_cons]
  have : [y].filter (fun b => !b == x) = [y] := by simp [h]
  rw [this, List.eraseDups_cons]
  rfl
section
variable {env : Env} {sc : Scope} {x y : Str} {px py pt pt2 : Pos} {a b : Expr} {kt k2 : Nat}
theorem sw2_yes (hk : env.blockKind = .function) (hs : env.scope = sc) (h : twoL sc x y px py a b = true) : swappedStores [.Tuple [.Name x px, .Name y py] kt pt] (.Tuple [a, b] k2 pt2) env = pure (some [x, y]) := by
  subst hs
  simp only [twoL, Bool.and_eq_true, Bool.not_eq_true'] at h
  obtain ⟨⟨⟨⟨⟨⟨⟨h1, h2⟩, h3⟩, h4⟩, h5⟩, h6⟩, h7⟩, h8⟩ := h
  have e1 : (env.kindOf x == some .local) = true := (lcl_beq (sc := env.scope)).trans h1
  have e2 : (env.kindOf y == some .local) = true := (lcl_beq (sc := env.scope)).trans h2
  have e3 : (y == x) = false := h4
  unfold swappedStores
  simp only [hk, List.head?_cons, Option.map_some, Option.getD_some, Expr.pos, List.filterMap_cons, List.filterMap_nil, e1, e2, h3, beq_self_eq_true, Bool.and_true, if_true, h5, h6, List.length_cons, List.length_nil, pure_bind]
  have e4 := two_dups e3
  have s1 := star_m h7
  have s2 := star_m h8
  simp [e4]
  intro h
  rcases h with h | h
  · cases a <;> first | cases (show false = true from h7) | cases (show false = true from h)
  · cases b <;> first | cases (show false = true from h8) | cases (show false = true from h)
theorem sw2_no (hk : env.blockKind = .function) (hs : env.scope = sc) (h : oneC sc x y px py a b = true) : swappedStores [.Tuple [.Name x px, .Name y py] kt pt] (.Tuple [a, b] k2 pt2) env = pure none := by
  subst hs
  simp only [oneC, Bool.and_eq_true, Bool.not_eq_true'] at h
  obtain ⟨⟨⟨h1, h4⟩, h7⟩, h8⟩ := h
  have e1 : (env.kindOf x == some .local) = lclB env.scope x := lcl_beq
  have e2 : (env.kindOf y == some .local) = lclB env.scope y := lcl_beq
  have e3 : (y == x) = false := h4
  have e4 := two_dups e3
  have s1 := star_m h7
  have s2 := star_m h8
  unfold swappedStores
  simp only [hk, List.head?_cons, Option.map_some, Option.getD_some, Expr.pos, List.filterMap_cons, List.filterMap_nil, e1, e2, beq_self_eq_true, Bool.and_true, List.length_cons, List.length_nil, pure_bind]
  cases q1 : lclB env.scope x <;> cases q2 : lclB env.scope y <;> cases q3 : (py.line == px.line) <;> rw [q1, q2, q3] at h1 <;> simp [e4, s1, s2] <;> simp at h1
  simp [h1]
end
section
variable {T : Tb} {fd : Nat → FuncData} {ca : Nat → Addr} {b : Bx} {cf : CF} {k fu : Nat} {X : Cx} {N : List Str} {sc : Scope} (O : Ok T fd ca b cf k X N sc (fun _ => true))
include O
variable {e1 e2 : Expr} {c1 c2 : E} {m1 m2 : Bool} {i j : Nat} {x y : Str} {px py pt pt2 pos : Pos} {kt k2 : Nat}
theorem Ok.bk : X.env.blockKind = .function := by
  have h : X.env.scope.kind = .function := by rw [O.esc]; exact O.kd
  unfold Env.blockKind
  rw [h]
  rfl
theorem g_par (h1 : PE X e1 (rX m1 b (evE cf c1))) (h2 : PE X e2 (rX m2 b (evE cf c2))) (h : (twoL sc x y px py e1 e2 && decide (N[i]? = some x) && decide (N[j]? = some y) && !decide (i = j)) = true := by decide +kernel) :
    PS X (.Assign [.Tuple [.Name x px, .Name y py] kt pt] (.Tuple [e1, e2] k2 pt2) pos) (rS b (evS cf fu (.par i j m1 m2 c1 c2))) := by
  simp only [Bool.and_eq_true, decide_eq_true_eq, Bool.not_eq_true', decide_eq_false_iff_not] at h
  obtain ⟨⟨⟨h3, h4⟩, h5⟩, h6⟩ := h
  have q := h3
  simp only [twoL, Bool.and_eq_true, Bool.not_eq_true'] at q
  obtain ⟨⟨⟨⟨⟨⟨⟨q1, q2⟩, _⟩, _⟩, _⟩, _⟩, q7⟩, q8⟩ := q
  exact ss_par O.calm (by rw [O.eN]; exact O.nd) (by rw [O.eN]; exact h4) (by rw [O.eN]; exact h5) h6 (by rw [O.esc]; exact lcl_of q1) (by rw [O.esc]; exact lcl_of q2) h1 h2 q7 q8 (sw2_yes O.bk O.esc h3)
theorem g_parC (h1 : PE X e1 (rX m1 b (evE cf c1))) (h2 : PE X e2 (rX m2 b (evE cf c2))) (h : (oneC sc x y px py e1 e2 && decide (N[i]? = some x) && decide (N[j]? = some y) && !decide (i = j) && locB sc x && locB sc y) = true := by decide +kernel) :
    PS X (.Assign [.Tuple [.Name x px, .Name y py] kt pt] (.Tuple [e1, e2] k2 pt2) pos) (rS b (evS cf fu (.par i j m1 m2 c1 c2))) := by
  simp only [Bool.and_eq_true, decide_eq_true_eq, Bool.not_eq_true', decide_eq_false_iff_not] at h
  obtain ⟨⟨⟨⟨⟨h3, h4⟩, h5⟩, h6⟩, l1⟩, l2⟩ := h
  have q := h3
  simp only [oneC, Bool.and_eq_true, Bool.not_eq_true'] at q
  obtain ⟨⟨⟨_, _⟩, q7⟩, q8⟩ := q
  exact ss_parC O.calm (by rw [O.eN]; exact O.nd) (by rw [O.eN]; exact h4) (by rw [O.eN]; exact h5) h6 (by rw [O.esc]; exact loc_of l1) (by rw [O.esc]; exact loc_of l2) (.inl (by rw [O.efv])) (.inl (by rw [O.efv])) h1 h2 q7 q8 (sw2_no O.bk O.esc h3)
end
end Ev

set_option Elab.async false
set_option linter.all false
set_option maxRecDepth 100000
set_option autoImplicit false
set_option Elab.async false
set_option linter.all false
set_option maxRecDepth 100000
set_option autoImplicit false
/-! EvX1: d.get(k, x), a new list of one's own by list(x), d.pop(k, None). -/
namespace Ev
open PySem PySem.Spec PyProof.Rows L2
section
variable {X : Cx} {b : Bx} {cf : CF} {fu : Nat}
theorem m2_of {o e f : Expr} {m : Str} {apos cpos : Pos} (hb : attributeBase o m X.env (eval o X.env) = eval o X.env) (h1 : notStar e = true) (h2 : notStar f = true) (hl : (apos.endLine == cpos.line) = true) : M2 X o m apos e f cpos where
  base := hb
  few := by rw [star_cons h1, star_cons h2]; rfl
  line := hl
  trees := by rw [star_cons h1, star_cons h2]; rfl
/-- any dict that may be read -/
theorem RepR.dictAt {z : Zt} {m : Mu} {F : Fz} {H : Hp} {v : V} {ds : List (D × D)} (hr : RepR z m F H v (.dict ds)) (hk : kdOk ds = true) : ∃ a o, v = .ref a ∧ Rd H a o ∧ RepD z m F H a o ds := by
  rcases hr with r | ⟨a, vs, _, e, q, h1, h2, _⟩ | ⟨a, o, _, e, q, h1, h2, _⟩
  · generalize hd : PyData.dict ds = d at r
    cases r with
    | @dK a od o ds' h1 h2 h3 => cases hd; exact ⟨a, o, rfl, .inr ⟨od, h2⟩, h3⟩
    | fn n => cases hd; simp [kdOk, keyOk, tkOk, isTup] at hk
    | scr => cases hd; simp [kdOk, keyOk, tkOk, isTup] at hk
    | ob h => cases hd; simp [kdOk, keyOk, tkOk, isTup] at hk
    | _ => cases hd
  · cases q
  · cases q
    exact ⟨a, o, e, .inl h1, h2⟩
def tGetX (X : Cx) (td ty tx : TE) : TE := fun σ H Q => td σ H fun x H1 => ∃ a, x = .ref a ∧ (∀ (pins : List (Addr × Obj)) (s : Shared) (σ : L2.St), Inv X pins σ H1 s → s.TypeIs (.ref a) "dict" ∧ ∀ b, Value.ref a = .ref b → ∃ ob, s.heap.get? b = some ob ∧ ob.dict = none) ∧ ty σ H1 fun y H2 => tx σ H2 fun t H3 =>
  ∀ (pins : List (Addr × Obj)) (s : Shared) (σ : L2.St) (u r : Value) (Q' : Value → Shared → Prop), Inv X pins σ H3 s → RelV y u → RelV t r → (∀ v' w' H' s', Inv X pins σ H' s' → RelV v' w' → Q v' H' → Q' w' s') → wpAny (model X.prog X.w) X.A (call (.builtin "dict.get") [.ref a, u, r]) Q' X.xe s
theorem pe_getX {o k f : Expr} {td ty tx : TE} {apos cpos : Pos} (ho : PE X o td) (he : PE X k ty) (hf : PE X f tx) (m : M2 X o "get" apos k f cpos) : PE X (.Call (.Attribute o "get" apos) [k, f] [] cpos) (tGetX X td ty tx) := by
  refine ⟨fun pins s σ H Q I h => ?_⟩
  refine wpAny_Call_method m.base m.few m.line PySem.F.plainAttrs_dict PySem.F.slot_dict_get PySem.F.type_dict_get (thn (ho.run pins s σ H _ I h) fun u s1 ⟨x, H1, I1, rx, a, ex, d, q1⟩ => ?_)
  subst ex
  obtain rfl : u = Value.ref a := rx
  obtain ⟨t1, t2⟩ := d pins s1 σ I1
  refine ⟨t1, t2, ?_⟩
  rw [m.trees]
  refine Calls.callWith_builtin rfl (Calls.evalArgs_plain (Calls.spliced_cons (thn (he.run pins s1 σ H1 _ I1 q1) fun iv s2 ⟨y, H2, I2, ry, q2⟩ => Calls.spliced_cons (thn (hf.run pins s2 σ H2 _ I2 q2) fun fv s3 ⟨zv, H3, I3, rz, q3⟩ => Calls.spliced_nil ?_))))
  exact q3 pins s3 σ iv fv _ I3 ry rz fun v' w' H' s' I' r' q => ⟨v', H', I', r', q⟩
theorem se_get2 {o k f : Expr} {co ck cx : E} {apos cpos : Pos} (hu : X.A.units + 10 < cLine) (hw : b.z.wd = X.w) (ho : PE X o (rR b (evE cf co))) (hk : PE X k (rR b (evE cf ck))) (hf : PE X f (rE b (evE cf cx))) (m : M2 X o "get" apos k f cpos) :
    PE X (.Call (.Attribute o "get" apos) [k, f] [] cpos) (rE b (evE cf (.get2 co ck cx))) :=
  (pe_getX ho hk hf m).imp fun σ H Q ⟨m, F, s, w, wf, sl, p⟩ => by
    have p : Post b m F H (bnd (evE cf co s) (fun x => bnd (lift (dctD x)) fun kvs => bnd (evE cf ck s) fun y => bnd (evE cf cx s) fun z => if kyOk y kvs then ret ((lookD kvs y).getD z) else bad) w) (Rep b.z) Q := by simpa only [evE] using p
    refine ⟨m, F, s, w, wf, sl, (p.bind).imp fun x H1 ⟨m1, F1, dx, w1, f1, wf1, r1, p1⟩ => ?_⟩
    obtain ⟨kvs, ex, p2⟩ := p1.lift
    cases dx with
    | dict ds =>
      have ex : (if kdOk ds then some ds else none) = some kvs := ex
      split at ex
      · rename_i hkd
        have ek : ds = kvs := Option.some.inj ex
        subst ek
        obtain ⟨a, o, rfl, hR, hD⟩ := r1.dictAt hkd
        refine ⟨a, rfl, fun pins s0 σ0 I => dict_at hw hR hD I, m1, F1, s, w1, wf1, sl.fm wf f1, (p2.bind).imp fun y H2 ⟨m2, F2, dy, w2, f2, wf2, r2, p3⟩ => ?_⟩
        refine ⟨m2, F2, s, w2, wf2, sl.fm wf (f1.trans f2), (p3.bind).imp fun t H3 ⟨m3, F3, dt, w3, f3, wf3, r3, p4⟩ => ?_⟩
        by_cases hc : kyOk dy ds = true
        · rw [if_pos hc] at p4
          have rx := wf1.rr r1 (f2.trans f3)
          have ry := wf2.rr r2 f3
          simp only [kyOk, Bool.or_eq_true, Bool.and_eq_true] at hc
          intro pins s0 σ0 u r Q' I qu qr q
          rcases hc with hm | hm
          · obtain ⟨k, rfl⟩ := keyOk_key hm.1
            have ey := ry.key
            subst ey
            obtain ⟨a', ks, ea, h1, h2⟩ := rx.dict hm.2
            cases ea
            have hl := h2.look k
            have g : DGet H3 a (kV k) (valV ks k) := .inl ⟨ks, k, h1, rfl, rfl⟩
            refine d_get2 (by omega) I g qu qr fun w' s' I' rw' => q _ w' H3 s' I' rw' ?_
            cases e1 : valV ks k with
            | none =>
              cases e2 : lookD ds (keyD k) with
              | none =>
                rw [e2] at p4
                exact (show Post b m3 F3 H3 (.ok dt w3) (Rep b.z) Q from p4).here wf3 r3
              | some d' => rw [e1, e2] at hl; exact hl.elim
            | some v' =>
              cases e2 : lookD ds (keyD k) with
              | none => rw [e1, e2] at hl; exact hl.elim
              | some d' =>
                rw [e1, e2] at hl
                rw [e2] at p4
                exact (show Post b m3 F3 H3 (.ok d' w3) (Rep b.z) Q from p4).here wf3 hl
          · exact n_getD hu hw I (show RelV (.ref a) (Value.ref a) from rfl) qu qr rx ry r3 hm.1 hm.2 fun v' w' s' I' rw' r' => q v' w' H3 s' I' rw' ((show Post b m3 F3 H3 (.ok _ w3) (Rep b.z) Q from p4).here wf3 r')
        · rw [if_neg hc] at p4
          exact p4.elim
      · cases ex
    | _ => cases ex
/-! ### list(x), the slot's own -/
def rC1F (b : Bx) (f : D → Option D) : List V → Hp → VK → Prop := fun vs H Q => ∃ Hs m F w v d, vs = [v] ∧ Wf b.z m F w H ∧ RepR b.z m F H v d ∧ (∀ q, H q = none → Hs q = none) ∧ Post b m F H (lift (f d) w) (FreshR b.z Hs) Q
theorem cd_listF (hc : X.calm = true) (hw : b.z.wd = X.w) : CallR X (.type "list") (rC1F b listD) := by
  intro pins s σ H xs us Q I r ⟨Hs, m, F, w, v, d, ex, wf, hr, hs, p⟩
  subst ex
  obtain ⟨d', e, p⟩ := p.lift1
  have fin : ∀ {ds : List D} {vs : List V}, Post b m F H (.ok (.list ds) w) (FreshR b.z Hs) Q → RepAll b.z m F H vs ds → ∀ q, H q = none → Q (.ref q) (upd H q (.lst vs)) := fun p h2 q hq =>
    p m F _ _ (Fm.laid hq) (wf.laid hq) ⟨q, rfl, hs q hq, (wf_new wf hq).1, (wf_new wf hq).2, .inl ⟨_, _, rfl, upd_same, wf.repAll (Fm.laid hq) h2⟩⟩
  unfold listD at e
  split at e
  · cases e
    obtain ⟨a, vs, rfl, h1, h2⟩ := hr.list
    exact call_list_of pins s σ H _ us Q I r ⟨a, vs, rfl, .inl (.inl (.inl h1)), fin p h2⟩
  · cases e
    obtain ⟨a, vs, rfl, h1, h2, h3⟩ := hr.tuple
    exact call_list_of pins s σ H _ us Q I r ⟨a, vs, rfl, .inr (.inl (.inl h1)), fin p h2⟩
  · split at e
    · rename_i kvs hk
      cases e
      obtain ⟨u, rfl, rx⟩ := vals1 r
      exact n_list hc hw I rx hr hk fun vs q s' I' ra hq => ⟨.ref q, _, I', rfl, fin p ra q hq⟩
    · cases e
  · cases e
theorem sf_bt {bi : Bi} {id : String} {x : Str} {a : Expr} {ca : E} {p1 pos : Pos} (hc : CallR X (.type id) (rC1F b (biD bi))) (hg : Gl X x) (hm : X.mg x = none) (hv : bootBuiltins x = some (.type id)) (ha : PE X a (rR b (evE cf ca))) (hs : notStar a = true) (hn : x ≠ "__name__") (hdb : (x == ("__debug__" : Str)) = false) :
    PE X (.Call (.Name x p1) [a] [] pos) (rF b (evE cf (.bi bi ca))) :=
  (pe_callTy hc hg hm hv (pa_cons ha pa_nil (star_cons hs)) hn hdb (star_cons hs) rfl).imp fun σ H Q ⟨m, F, s, w, wf, sl, p⟩ => by
    have p : Post b m F H (bnd (evE cf ca s) (fun x => lift (biD bi x)) w) (FreshR b.z H) Q := by simpa only [evE] using p
    exact ⟨m, F, s, w, wf, sl, (p.bind).imp fun v H1 ⟨m1, F1, dx, w1, f1, wf1, r1, p1⟩ => ⟨H, m1, F1, w1, v, dx, rfl, wf1, r1, fun q hq => f1.unlaid hq, p1⟩⟩
end
section
variable {T : Tb} {fd : Nat → FuncData} {ca : Nat → Addr} {b : Bx} {cf : CF} {kk fu : Nat} {X : Cx} {N : List Str} {sc : Scope} {fv : Str → Bool} (O : Ok T fd ca b cf kk X N sc fv)
include O
theorem g_get2 {o k f : Expr} {co ck cx : E} {apos cpos : Pos} (ho : PE X o (rR b (evE cf co))) (hk : PE X k (rR b (evE cf ck))) (hf : PE X f (rE b (evE cf cx))) (hb : attributeBase o "get" X.env (eval o X.env) = eval o X.env := by rfl) (h1 : notStar k = true := by rfl) (h2 : notStar f = true := by rfl) (hl : (apos.endLine == cpos.line) = true := by rfl) :
    PE X (.Call (.Attribute o "get" apos) [k, f] [] cpos) (rE b (evE cf (.get2 co ck cx))) := se_get2 (by have := O.un; omega) O.ew ho hk hf (m2_of hb h1 h2 hl)
theorem g_listF {a : Expr} {ca' : E} {p1 pos : Pos} (ha : PE X a (rR b (evE cf ca'))) (h : bB T sc "list" = true := by decide +kernel) (hs : notStar a = true := by rfl) : PE X (.Call (.Name "list" p1) [a] [] pos) (rF b (evE cf (.bi .list ca'))) := sf_bt (cd_listF O.calm O.ew) (O.blt h).1 (O.blt h).2.1 rfl ha hs (by decide) (by decide)
theorem g_dpop {k : Expr} {ck : E} {i j : Nat} {y : Str} {apos cpos p1 p2 pos : Pos} (hk : PE X k (rE b (evE cf ck))) (h : vB N sc i y = true := by decide +kernel) (h1 : notStar k = true := by rfl) (hl : (apos.endLine == cpos.line) = true := by rfl) :
    PS X (.Expr (.Call (.Attribute (.Name y p1) "pop" apos) [k, .Constant .none j p2] [] cpos) pos) (rS b (evS cf fu (.dpop i ck))) := ss_dpop (by have := O.un; omega) O.ew (O.v h).1 (O.v h).2.1 (O.v h).2.2.1 (O.v h).2.2.2 hk (m2_of rfl h1 rfl hl)
end
end Ev

set_option Elab.async false
set_option linter.all false
set_option maxRecDepth 100000
set_option maxHeartbeats 2000000
set_option autoImplicit false
/-! EvLam: x(lambda: e), the maker's table told exactly. -/
namespace Ev
open PySem PySem.Spec PyProof.Rows L2 LamX
/-- the heap behind the making: as before, or one code object more -/
def LamTo (H : Hp) (P : Addr) (q : Str) (ps : Array Value) (H1 : Hp) : Prop :=
  H1 = H ∨ ∃ (k : Addr) (qs : Array Value), H k = none ∧ H1 = upd (upd H P (.tbl qs)) k (CodeO k q) ∧ TriplesOk qs.toList ∧ ∀ (pos : Pos) (cv : Value), codeAmong pos qs.toList = some cv → codeAmong pos ps.toList = some cv ∨ cv = .ref k
def TabE (H : Hp) (P : Addr) (q : Str) (ps : Array Value) : Prop := H P = some (.tbl ps) ∧ TriplesOk ps.toList ∧ ∀ (pos : Pos) (cv : Value), codeAmong pos ps.toList = some cv → ∃ k, cv = .ref k ∧ H k = some (CodeO k q)
section
variable {X : Cx} {pins : List (Addr × Obj)} {σ : L2.St} {H : Hp} {s : Shared}
theorem lam_made {c P : Addr} {ps : Array Value} {params : Arguments} {body : Expr} {scope : Scope} {pos : Pos} {E : Value → Shared → Prop} {Q : Value → Shared → Prop} (I : Inv X pins σ H s) (TB : TabB X.base X.mg c P) (hcode : X.env.code = .ref c)
    (hT : TabE H P (X.env.qual ++ "<lambda>") ps) (hdef : defaultsOf params X.env = ([], [])) (hfree : ∀ y ∈ scope.names, y.2 = .free → ∃ c, X.env.cells.lookup y.1 = some c)
    (h : ∀ (f k : Addr) (pm ctv : Value) (H1 : Hp) (s' : Shared), Inv X pins σ H1 s' → LamTo H P (X.env.qual ++ "<lambda>") ps H1 →
      s'.heap.get? f = some (PySem.W.kla_obj "<lambda>" (X.env.qual ++ "<lambda>") params body scope (cloFrom X.env.cells scope.names []) pm k ctv) → H1 f = none → f ∉ frs X.stack → H1 k = some (CodeO k (X.env.qual ++ "<lambda>")) → Q (.ref f) s') :
    wpAny (model X.prog X.w) X.A (eval (.Lambda params body scope pos) X.env) Q E s := by
  obtain ⟨hP, ht, ha⟩ := hT
  refine PySem.W.kla_eval hdef ?_
  have bT : s.heap.BuiltinsAt X.mg P := TB.bm.keeps I.bk
  have gP : s.heap.get? P = some { cls := .none, data := .fields ps } := I.hok P _ hP
  have apart : ∀ f, s.heap.objs.size ≤ f → f ∉ frs X.stack := fun f hf z => by
    rcases List.mem_cons.mp (I.stkSub _ z) with e | e
    · have q := I.lt
      rw [← e] at q
      exact absurd (Nat.lt_of_lt_of_le q hf) (Nat.lt_irrefl _)
    · exact I.nofs hf e
  cases hc : codeAmong pos ps.toList with
  | some cv =>
    obtain ⟨k, e, hco⟩ := ha pos cv hc
    subst e
    refine PySem.W.kla_makeFunctionHit (mg := X.mg) (c := c) (P := P) (ps := ps) (closure_ok hfree) I.ok.glob (I.mod.glob.keeps I.bk) hcode (TB.code.keeps I.bk) gP ht hc bT fun ctv h' tk hx hsz => ?_
    exact h h'.objs.size k ((X.mg "__name__").getD .none) ctv H _ (I.kept (h' := h'.push (PySem.W.kla_obj "<lambda>" (X.env.qual ++ "<lambda>") params body scope (cloFrom X.env.cells scope.names []) ((X.mg "__name__").getD .none) k ctv)) (t' := tk) fun b o e => Heap.get?_push_of_some _ (hx b o e)) (.inl rfl) (Heap.get?_push_size _ rfl) (I.hok.fresh hsz) (apart _ hsz) hco
  | none =>
    refine PySem.W.kla_makeFunction (mg := X.mg) (c := c) (P := P) (ps := ps) (closure_ok hfree) I.ok.glob (I.mod.glob.keeps I.bk) hcode (TB.code.keeps I.bk) gP ht hc TB.gP bT fun k ctv h' tk hx hge hlt hrec htb => ?_
    obtain ⟨k2, oc, vs, t, e2, hoc, hd, hv⟩ := hrec
    cases e2
    have big : s.heap.objs.size ≤ h'.objs.size := Nat.le_trans hge (Nat.le_of_lt hlt)
    have nK : H k = none := I.hok.fresh hge
    have I1 := inv_table (t' := tk) (more := #[rawInt pos.line, rawInt pos.col, .ref k]) (h' := h'.push (PySem.W.kla_obj "<lambda>" (X.env.qual ++ "<lambda>") params body scope (cloFrom X.env.cells scope.names []) ((X.mg "__name__").getD .none) k ctv)) I hP
      (fun b o hb e => Heap.get?_push_of_some _ (hx b o hb e)) (Heap.get?_push_of_some _ htb) hge ⟨oc, vs, t, Heap.get?_push_of_some _ hoc, hd, hv⟩
    have eL : (ps ++ #[rawInt pos.line, rawInt pos.col, .ref k]).toList = ps.toList ++ [rawInt pos.line, rawInt pos.col, .ref k] := by simp
    refine h h'.objs.size k ((X.mg "__name__").getD .none) ctv _ _ I1 (.inr ⟨k, _, nK, rfl, ?_, fun p' cv hcv => ?_⟩) (Heap.get?_push_size _ rfl) ?_ (apart _ big) upd_same
    · rw [eL]
      exact PySem.TriplesOk_snoc _ _ _ _ ht
    · rw [eL] at hcv
      exact among_app _ ht hcv
    · have n2 : h'.objs.size ≠ P := Nat.ne_of_gt (Nat.lt_of_lt_of_le (Heap.lt_size gP) big)
      rw [upd_ne (Nat.ne_of_gt hlt), upd_ne n2]
      exact I.hok.fresh big
end
/-- x() in the def that got the lambda; what it raises is wished for at the def's own slots -/
theorem pe_actS {X : Cx} {pins : List (Addr × Obj)} {σ : L2.St} {H : Hp} {s : Shared} {CXg : CXT} {Eg : XK} {Ng : List Str} {qg : Str} {sg : Scope} {g f k' : Addr} {cdg pm ctv : Value} {params : Arguments} {body : Expr} {scope : Scope} {k i : Nat} {a : Str} {pn : List (Addr × Obj)} {xe : Value → Shared → Prop} {W : WX} {tb : XK → TE} {p1 p2 : Pos}
    (I : Inv X pins σ H s) (L : LamS X.env.scope scope) (hf : s.heap.get? f = some (PySem.W.kla_obj "<lambda>" (X.env.qual ++ "<lambda>") params body scope (cloFrom X.env.cells scope.names []) pm k' ctv)) (hfn : H f = none) (hfr : f ∉ frs X.stack)
    (hbind : bindArgs (PySem.W.kla_fn "<lambda>" (X.env.qual ++ "<lambda>") params body scope (cloFrom X.env.cells scope.names []) pm (.ref k') ctv) ⟨[], []⟩ = pure [])
    (tk : Takes ((cxOf CXg X.prog X.w X.K X.mg X.base Ng qg sg g cdg X.A X.stack s H Eg).tr pn xe) W) (hr : Room (k + 1) (X.A.deeper (envOfC qg sg s.heap.objs.size g cdg)))
    (hbody : ∀ (A : Around) (outer : List Env) (s : Shared) (H : Hp) (E : XK), Room k (A.deeper (lamEnv X scope s.heap.objs.size f k')) → PE (lamCx X A outer s H E scope f k') body (tb E))
    (hN : Ng[i]? = some a) (hv : Vis sg a) (hd : (a == ("__debug__" : Str)) = false) (hcd : (a == ("__classdict__" : Str)) = false) :
    PE ((cxOf CXg X.prog X.w X.K X.mg X.base Ng qg sg g cdg X.A X.stack s H Eg).tr pn xe) (.Call (.Name a p1) [] [] p2)
      (fun σZ HZ Q => σZ[i]? = some (some (.ref f)) ∧ HZ k' = some (CodeO k' (X.env.qual ++ "<lambda>")) ∧ tb (fun cls d H' => W cls d σZ H') σ HZ Q) := by
  refine ⟨fun pinsZ sZ σZ HZ Q IZ ⟨hs, hc, ht⟩ => ?_⟩
  refine wpAny_Call_Name_kw (thn ((pe_var (pos := p1) (i := i) hN hv hd hcd).run pinsZ sZ σZ HZ (fun v H1 => v = .ref f ∧ H1 = HZ) IZ ⟨.ref f, hs, rfl, rfl⟩) fun u s1 ⟨v, H1, I1, r1, ev, eH⟩ => ?_)
  subst ev
  rw [eH] at I1
  obtain rfl : u = Value.ref f := r1
  have fo := I1.base.keep f _ hf hfn hfr (fun z => nomatch (show f ∈ ([] : List Addr) from z))
  refine PySem.W.callWith_F0 ⟨_, _, _, _, fo⟩ ?_
  obtain ⟨⟨oc, vs, t, hoc, hdc, hvc⟩, _, _⟩ := I1.hok k' _ hc
  have rc : codeAny (model X.prog X.w) (X.A.deeper (envOfC qg sg s.heap.objs.size g cdg)) (.call (.ref f) ⟨[], []⟩) (CR (L2.CX X.prog X.w) (envOfC qg sg s.heap.objs.size g cdg :: X.stack) X.prog X.w HZ s1 Q (fun cls d H' => W cls d σZ H')) s1 := by
    refine PySem.W.kla_callFunE hr.depth fo rfl L.co L.gen rfl ⟨k', oc, vs, t, rfl, hoc, hdc, hvc⟩ ?_
    rw [hbind]
    refine wpAny_pure (wpAny_newFunctionEnv (fun y hy => (L.own y hy).2) (fun y hy => absurd hy (by simp)) (fun h₁ hns hsb => ⟨I1.nolimit.fresh _ hsb, ?_⟩) L.kind)
    show codeAny _ _ (.expr body (lamEnv X scope s1.heap.objs.size f k')) _ _
    have J : Inv (lamCx X (X.A.deeper (envOfC qg sg s.heap.objs.size g cdg)) (envOfC qg sg s.heap.objs.size g cdg :: X.stack) s1 HZ (fun cls d H' => W cls d σZ H') scope f k') [] σ HZ { s1 with heap := h₁, toks := s1.toks + ([] : List (Str × Value)).length } :=
      lam_start2 I L I1.env0 hr.hd I1.base hns fun b o e => hsb.extBut b o (Nat.ne_of_lt (Heap.lt_size e)) (Heap.get?_push_of_some _ e)
    refine PySem.W.kla_codeExpr (wpAny_mono ((hbody _ _ s1 HZ _ (hr.deeper _)).run [] _ _ HZ Q J ht) (fun v s' hq => ?_) fun e s' hq => hq)
    obtain ⟨w', H', J', rv, q⟩ := hq
    exact ⟨w', H', J'.os, J'.bare, J'.base, J'.hok, rv, q⟩
  refine wpAny_call (codeAny_mono rc fun r s' hq => ?_)
  cases r with
  | error e => exact tk e s' (XE.of_call I1 (fun _ _ _ h => h) hq)
  | ok fl =>
    cases fl with
    | ret u => exact I1.after hq
    | next => exact False.elim hq
    | brk => exact False.elim hq
    | cont => exact False.elim hq
/-- the def that calls what it got: what it makes of the lambda's reading -/
def GivesS (X : Cx) (k : Nat) (Ng : List Str) (x : Str) (sg : Scope) (g : Addr) (cdg : Value) (bg : List Stmt) (a : Str) (q : Str) (TT : (XK → Hp → VK → Prop) → Hp → VK → Prop) : Prop :=
  ∀ (f k' : Addr) (s : Shared) (H : Hp) (Q : VK) (tl : XK → Hp → VK → Prop), Room (k + 1) (X.A.deeper (envOfC x sg s.heap.objs.size g cdg)) →
    (∀ (W : WX) (pn : List (Addr × Obj)) (xe : Value → Shared → Prop) (p1 p2 : Pos), Takes ((cxOf C8.CX0 X.prog X.w X.K X.mg X.base Ng x sg g cdg X.A X.stack s H C8.E0).tr pn xe) W →
      PE ((cxOf C8.CX0 X.prog X.w X.K X.mg X.base Ng x sg g cdg X.A X.stack s H C8.E0).tr pn xe) (.Call (.Name a p1) [] [] p2) (fun σZ HZ Q => σZ[0]? = some (some (.ref f)) ∧ HZ k' = some (CodeO k' q) ∧ tl (fun cls d H' => W cls d σZ H') HZ Q)) →
    H k' = some (CodeO k' q) → TT tl H Q →
    ∃ t, PSs (cxOf C8.CX0 X.prog X.w X.K X.mg X.base Ng x sg g cdg X.A X.stack s H C8.E0).nox bg t ∧ t { nx := fun _ H' => Q .non H', rt := Q } (L2.start Ng [.ref f]) H
def tLamR (P : Addr) (q : Str) (TT : (XK → Hp → VK → Prop) → Hp → VK → Prop) (t : XK → TE) : TE := fun σ H Q => ∃ ps, TabE H P q ps ∧ ∀ H1, LamTo H P q ps H1 → TT (fun E H' Q' => t E σ H' Q') H1 Q
section
variable {X : Cx}
theorem pe_lamR {TT : (XK → Hp → VK → Prop) → Hp → VK → Prop} {x a : Str} {g c P : Addr} {k : Nat} {pg : Arguments} {bg : List Stmt} {sg : Scope} {dV kV doc pm cdv ct oc : Value} {an od : Option Addr} {osl : Array (Option Value)} {Ng : List Str}
    {params : Arguments} {body : Expr} {scope : Scope} {t : XK → TE} {p lpos pos : Pos} (hg : Gl X x) (hm : X.mg x = some (.ref g)) (hk : PySem.W.keepIn X.K (.ref g) = true)
    (lk : X.K.lookup g = some ⟨oc, od, .func (PySem.W.fnOf x x pg bg sg dV kV doc pm an cdv ct), osl⟩) (hcg : PySem.W.codeIn X.K cdv x = true) (hb : L2.Binds X.K (PySem.W.fnOf x x pg bg sg dV kV doc pm an cdv ct) [a] []) (Sg : FnScope Ng [a] sg) (hNg : Ng[0]? = some a) (hva : Vis sg a)
    (hG : GivesS X k Ng x sg g cdv bg a (X.env.qual ++ "<lambda>") TT)
    (TB : TabB X.base X.mg c P) (hcode : X.env.code = .ref c) (hr : Room (k + 2) X.A) (L : LamS X.env.scope scope) (hdef : defaultsOf params X.env = ([], []))
    (hbind : ∀ (q : Str) (cl : List (Str × Addr)) (pm cv ctv : Value), bindArgs (PySem.W.kla_fn "<lambda>" q params body scope cl pm cv ctv) ⟨[], []⟩ = pure [])
    (hbody : ∀ (A : Around) (outer : List Env) (s : Shared) (H : Hp) (E : XK) (f k' : Addr), Room k (A.deeper (lamEnv X scope s.heap.objs.size f k')) → PE (lamCx X A outer s H E scope f k') body (t E))
    (hdb : (x == ("__debug__" : Str)) = false) (hd : (a == ("__debug__" : Str)) = false) (hcd : (a == ("__classdict__" : Str)) = false) :
    PE X (.Call (.Name x p) [.Lambda params body scope lpos] [] pos) (tLamR P (X.env.qual ++ "<lambda>") TT t) := by
  refine ⟨fun pins s σ H Q I h => ?_⟩
  obtain ⟨ps, hT, h⟩ := h
  refine wpAny_Call_Name_kw (ld_glob I hg hm ?_ hdb)
  refine PySem.W.callWith_K (h₀ := X.base) I.ok.mod.kin hk ?_ (by rfl) (by rfl)
  show wpAny _ _ (spliced ((false, eval (.Lambda params body scope lpos) X.env) :: backTo pos (starEach [] X.env))) _ _ s
  refine Calls.spliced_cons (lam_made I TB hcode hT hdef (L.has I.ok) fun f k' pm' ctv H1 s' I1 to hf hfn hfr hco => Calls.spliced_nil ⟨I1.kIn, ?_⟩)
  have rc : codeAny (model X.prog X.w) X.A (.call (.ref g) ⟨[.ref f], []⟩) (CR C8.CX0 X.stack X.prog X.w H1 s' Q C8.E0) s' := by
    refine run_ofS (N := Ng) (ps := [a]) (us := [.ref f]) (vs := [.ref f]) lk hcg Sg hr I1.env0 (hb s' [.ref f] I1.kIn rfl) (.cons rfl .nil) rfl fun hr' => ?_
    obtain ⟨t', ht', hq'⟩ := hG f k' s' H1 Q (fun E H' Q' => t E σ H' Q') hr' (fun W pn xe p1 p2 tk => pe_actS (i := 0) I1 L hf hfn hfr (hbind _ _ _ _ _) tk hr' (fun A outer s H E hr2 => hbody A outer s H E f k' hr2) hNg hva hd hcd) hco (h H1 to)
    exact ⟨t', ht'.nox, hq'⟩
  refine wpAny_call (codeAny_mono rc fun r s2 hq => ?_)
  cases r with
  | error e => exact (show False from hq).elim
  | ok fl =>
    cases fl with
    | ret u => exact I1.after hq
    | next => exact False.elim hq
    | brk => exact False.elim hq
    | cont => exact False.elim hq
end
end Ev

set_option Elab.async false
set_option linter.all false
set_option maxRecDepth 100000
set_option maxHeartbeats 2000000
set_option autoImplicit false
/-! EvTry: try .. except X as n, the caught error kept as a known object behind the suite. -/
namespace Ev
open PySem PySem.Spec PyProof.Rows L2
/-- the object at a is an error of the class cls, without a dict -/
def ErrO (cls : Value) (a : Addr) : HO := .ext fun h => ∃ (oe : Obj) (vs : Array Value), h.get? a = some oe ∧ oe.cls = cls ∧ oe.dict = none ∧ oe.data = .fields vs
theorem errO_ok {P : Program} {w : World} {H : Hp} {h : Heap} {a : Addr} {cls : Value} {oe : Obj} {vs : Array Value} (e : h.get? a = some oe) (z : Zc cls none oe) (d : oe.data = .fields vs) : ObjOk P w H h a (ErrO cls a) :=
  ⟨⟨oe, vs, e, z.1, z.2, d⟩, ⟨oe, e⟩, fun h1 h2 ⟨o, us, a1, a2⟩ k => ⟨o, us, k o a1, a2⟩⟩
section
variable {X : Cx} {pins : List (Addr × Obj)} {σ : L2.St} {H : Hp} {s : Shared}
/-- an object that is new since the entry is told from now on -/
theorem inv_track {a : Addr} {o : HO} {ob : Obj} {vs : Array Value} (I : Inv X pins σ H s) (h0 : X.s_0.heap.get? a = none) (hn : H a = none) (hg : s.heap.get? a = some ob) (hd : ob.data = .fields vs) (nP : ∀ p ∈ X.pn ++ pins, p.1 ≠ a)
    (new : ObjOk X.prog X.w (upd H a o) s.heap a o) : Inv X pins σ (upd H a o) s := by
  have ne : ∀ b u, H b = some u → b ≠ a := fun b u e => ne_of_none e hn
  have neC : ∀ (c : Addr) (v : Option Value), s.heap.IsCell c v → c ≠ a := fun c v ⟨q, e, d⟩ z => by
    rw [z, hg] at e
    cases e
    rw [hd] at d
    cases d
  have neL : X.env.locals ≠ a := fun z => by
    obtain ⟨m, ⟨q, es, ep, e, d, _⟩, _⟩ := I.loc
    rw [z, hg] at e
    cases e
    rw [hd] at d
    cases d
  refine ⟨I.ok, I.os, I.bare, ⟨I.base.keep, I.base.slot, fun b u e1 e2 e3 => ?_, I.base.there, fun b xs e => ?_, fun b u v e => ?_, fun b ps e => ?_⟩, I.loc, I.cell, ?_, fun y c e => ?_, fun p hp => ?_, fun b u e => ?_, I.len⟩
  · have : b ≠ a := fun z => by rw [z, h0] at e1; cases e1
    rw [upd_ne this]
    exact I.base.free b u e1 e2 e3
  · have q := I.base.tups b xs e
    rw [upd_ne (ne b _ q)]
    exact q
  · have q := I.base.frzs b u v e
    rw [upd_ne (ne b _ q)]
    exact q
  · obtain ⟨more, q⟩ := I.base.tbls b ps e
    exact ⟨more, by rw [upd_ne (ne b _ q)]; exact q⟩
  · rw [upd_ne neL]
    exact I.free
  · obtain ⟨v, q⟩ := I.cell y c e
    rw [upd_ne (neC c v q)]
    exact I.freeC y c e
  · obtain ⟨q1, q2, q3⟩ := I.pin p hp
    exact ⟨q1, by rw [upd_ne (nP p hp)]; exact q2, q3⟩
  · by_cases hb : b = a
    · rw [hb, upd_same] at e
      cases e
      rw [hb]
      exact new
    · rw [upd_ne hb] at e
      exact (I.hok b u e).stay (fun _ _ _ q => q) (fun c q => by rw [upd_ne (ne c _ q)]; exact q) fun c xs q => by rw [upd_ne (ne c _ q)]; exact q
end
/-- what the clause wishes: the error is one of its class and has no dict; behind the suite it is known -/
def wKept (K : PySem.W.Frag) (c : Value) (i : Nat) (ts : Addr → Value → TS) (D : Ends) : WX := fun cls d σ H => d = none ∧ PySem.W.exmOne K cls c = some true ∧
  ∀ a, H a = none → ts a cls { nx := fun σ' H' => H' a = none → D.nx (σ'.set i none) (upd H' a (ErrO cls a)), rt := fun _ _ => False, bk := fun _ _ => False, ct := fun _ _ => False } (σ.set i (some (.ref a))) H
section
variable {X : Cx} {x n : Str} {c : Value} {i : Nat} {body suite : List Stmt} {b₀ : Stmt} {np pos pos' : Pos} {tb : WX → TS} {ts : Addr → Value → TS}
theorem ps_tryKept (hs : X.stack = X.env :: X.outer) (hf : X.env.frame = some X.env.locals) (hex : X.ex = []) (hN : X.N.Nodup) (hi : X.N[i]? = some n) (hln : X.env.kindOf n = some .local) (hc : Names X x c)
    (hb : ∀ (W : WX) (pn : List (Addr × Obj)) (xe : Value → Shared → Prop), Takes (X.tr pn xe) W → PassesOwn (model X.prog X.w) X.A X.env xe → PSs (X.tr pn xe) body (tb W))
    (hsu : ∀ (a : Addr) (oe : Obj) (cls : Value) (pn : List (Addr × Obj)), PSs (X.suite a ((a, oe) :: pn)) (b₀ :: suite) (ts a cls)) :
    PS X (.Try body [.ExceptHandler (some (.Name x np)) (some n) (b₀ :: suite) pos'] [] [] pos) (fun D σ H => tb (wKept X.K c i ts D) D σ H) := by
  refine ⟨fun pins s σ H D I h => ?_⟩
  have ok := I.ok
  have hfr : X.A.frames = some (X.env :: X.outer) := by rw [ok.frames, hs]
  have hloc : Loc X.env.scope n := .inl hln
  refine wpAny_Try_except ?_
  refine wpAny_mono ((hb (wKept X.K c i ts D) (X.pn ++ pins) (fun e s₁ => wpAny (model X.prog X.w) X.A (noteFrame e X.env) (fun _ s₂ => wpAny (model X.prog X.w) X.A (setFlight e none) (fun _ s₃ =>
    wpAny (model X.prog X.w) X.A (handleBy e X.env [.ExceptHandler (some (.Name x np)) (some n) (b₀ :: suite) pos']) (SP X pins D) X.xe s₃) X.xe s₂) X.xe s₁) (fun u s' xx => ?_) PassesOwn.looking).run [] s σ H D (I.toTry _) h) (fun f s1 hsp => ?_) (fun e s1 he => he)
  · obtain ⟨a, B, sI, pins', σ', H', cls, d, rfl, J', nb, up, sky, na, os, ag, ed, hb1, hyes⟩ := xx
    subst ed
    have J : Inv X pins σ' H' sI := J'.ofTry ok
    have sky2 : Sky B (X.env :: X.outer) a (Zc cls none) X.env.locals s'.heap := by rw [← hs]; exact sky
    show wpAny (model X.prog X.w) X.A (noteFrame (.ref a) X.env) _ _ _
    refine Sky.land Zc.steady hfr hf sky2 fun h3 fl3 up3 => ?_
    have J3 : Inv X pins σ' H' { s' with heap := h3 } := J.landed nb fl3.1 (up.trans up3) os ag
    obtain ⟨oe3, vs3, he3, hz3, hd3⟩ := fl3.there
    have nfr : a ∉ frs (X.env :: X.outer) := fun hm => by
      obtain ⟨_, o', e', hnf⟩ := fl3.2.2.1.mem hm
      rw [he3] at e'
      cases e'
      exact hnf _ hd3
    have noI : sI.heap.get? a = none := by
      cases q : sI.heap.get? a with
      | none => rfl
      | some o =>
        have z := nb a o q (by show a ∉ frs X.stack; rw [hs]; exact nfr)
        rw [fl3.2.1] at z
        cases z
    have no0 : X.s_0.heap.get? a = none := by
      cases q : X.s_0.heap.get? a with
      | none => rfl
      | some o =>
        obtain ⟨o', z⟩ := J.base.there a o q (by rw [hex]; simp)
        rw [noI] at z
        cases z
    have noP : ∀ p ∈ X.pn ++ pins, p.1 ≠ a := fun p hp z => by
      have q := (J.pin p hp).1
      rw [z, noI] at q
      cases q
    have nL : a ≠ X.env.locals := fun z => nfr (List.mem_filterMap.mpr ⟨X.env, List.mem_cons_self, by rw [hf, z]⟩)
    have nF : a ∉ X.fs := fun hm => by
      obtain ⟨e, he, q⟩ := List.mem_filterMap.mp hm
      exact nfr (List.mem_filterMap.mpr ⟨e, List.mem_cons_of_mem _ he, q⟩)
    have S3 := J3.suite he3 hd3 na nL nF
    refine wpAny_handleBy_cons (codeAny_handlers_test ?_) (by intro q; cases q)
    have LT : PySem.W.Looks (model X.prog X.w) h3 (typeOf (.ref a)) cls := fun A Q E s k q => wpAny_typeOf_ref (k _ _ he3) (by rw [hz3.1]; exact q)
    have LM := PySem.W.exm_one (M := model X.prog X.w) (J3.kIn) LT hb1
    have test : ∀ {Q : Value → Shared → Prop} {E : Value → Shared → Prop}, Q c { s' with heap := h3 } → wpAny (model X.prog X.w) (X.A.mark (some (.ref a))) (eval (.Name x np) X.env) Q E { s' with heap := h3 } := fun {Q E} q => by
      obtain ⟨hg, hdbg, hm | ⟨hm, hv, hnn⟩⟩ := hc
      · exact ld_glob (X := X.suite a ((a, oe3) :: (X.pn ++ pins))) S3 hg hm q hdbg
      · exact ld_blt (X := X.suite a ((a, oe3) :: (X.pn ++ pins))) S3 hg hm hv q hnn hdbg
    refine test (LM.here ?_)
    refine codeAny_handlers_suite_as ?_
    refine HandSPX.lands_againZ fl3 fun h4 fl4 up4 => ?_
    have J4 : Inv X pins σ' H' { s' with heap := h4 } := J.landed nb fl4.1 ((up.trans up3).trans up4) os ag
    obtain ⟨oe4, vs4, he4, hz4, hd4⟩ := fl4.there
    have S4 := J4.suite he4 hd4 na nL nF
    refine store_ok (X := X.suite a ((a, oe4) :: (X.pn ++ pins))) (v := .ref a) S4 hN hi hloc rfl (fun s5 S5 => ?_) (.inr hln)
    refine wpAny_mono ((hsu a oe4 cls (X.pn ++ pins)).run [] s5 _ H' _ S5 (hyes a na)) (fun f s6 hsp => ?_) (fun _ _ z => False.elim z)
    cases f with
    | next =>
      obtain ⟨σ6, H6, S6, q6⟩ := hsp
      have pin := S6.pin (a, oe4) (List.mem_append.mpr (.inl List.mem_cons_self))
      have J6 : Inv X pins σ6 H6 s6 := S6.unsuite ok
      have J7 := inv_track (o := ErrO cls a) J6 no0 pin.2.1 pin.1 hd4 noP (errO_ok pin.1 hz4 hd4)
      exact gone_ok J7 hN hi hln fun s8 J8 => ⟨_, _, J8, q6 pin.2.1⟩
    | brk =>
      obtain ⟨σ6, H6, S6, q6⟩ := hsp
      exact q6.elim
    | cont =>
      obtain ⟨σ6, H6, S6, q6⟩ := hsp
      exact q6.elim
    | ret u =>
      obtain ⟨v6, σ6, H6, S6, r6, q6⟩ := hsp
      exact q6.elim
  · cases f with
    | next =>
      obtain ⟨σ', H', J', q⟩ := hsp
      exact wpAny_execs_nil ⟨σ', H', J'.ofTry ok, q⟩
    | brk =>
      obtain ⟨σ', H', J', q⟩ := hsp
      exact ⟨σ', H', J'.ofTry ok, q⟩
    | cont =>
      obtain ⟨σ', H', J', q⟩ := hsp
      exact ⟨σ', H', J'.ofTry ok, q⟩
    | ret u =>
      obtain ⟨v, σ', H', J', r, q⟩ := hsp
      exact ⟨v, σ', H', J'.ofTry ok, r, q⟩
end
/-- isinstance(e, c), e a known error -/
def rIsX (K : PySem.W.Frag) : List V → Hp → VK → Prop := fun xs H Q => ∃ (a D : Addr) (c : V) (cv : Value) (b : Bool), xs = [.ref a, c] ∧ H a = some (ErrO (.ref D) a) ∧ ExcC K D ∧ (∀ u, RelV c u → u = cv) ∧ PySem.W.kitOne K (.ref D) cv = some b ∧ Q (.bl b) H
theorem call_isX {X : Cx} : CallR X (.builtin "isinstance") (rIsX X.K) := by
  intro pins s σ H xs us Q I r h
  obtain ⟨a, D, c, cv, b, rfl, hE, C, hcv, e, q⟩ := h
  cases r with
  | cons rx rr =>
    cases rr with
    | cons rt rr =>
      cases rr
      cases rx
      have ec := hcv _ rt
      subst ec
      obtain ⟨⟨oe, vs, h1, h2, h3, h4⟩, _, _⟩ := I.hok a _ hE
      have J : PySem.W.InstAt s.heap a oe D none := by
        obtain ⟨oc, od, oda, osl⟩ := oe
        dsimp only at h2 h3 h4
        subst h2 h3 h4
        exact ⟨h1, rfl, rfl, trivial⟩
      exact PySem.W.kia_one (PySem.W.handS_kitx_exc C.hg C.hk C.hs C.hd C.ha C.hn C.ht C.hm) I.kIn J e (fun z => nomatch z) fun tk => ⟨.bl b, H, I.kept (t' := tk) fun _ _ z => z, rfl, q⟩
end Ev

set_option Elab.async false
set_option linter.all false
set_option maxRecDepth 100000
set_option maxHeartbeats 2000000
set_option autoImplicit false
/-! EvRes: the laws' _law_result. -/
namespace Ev
open PySem PySem.Spec PyProof.Rows L2
/-! ### d.update(e) -/
section
variable {X : Cx} {pins : List (Addr × Obj)} {σ : L2.St} {H : Hp} {s : Shared} {a c : Addr} {kvs more : List (Key × V)} {A : Around} {E : Value → Shared → Prop}
theorem d_update {Q : Value → Shared → Prop} (I : Inv X pins σ H s) (e : H a = some (.dK kvs)) (e2 : Rd H c (.dK more)) (ne : a ≠ c) (hl : kvs.length + more.length ≤ sizeLine) (h : ∀ s', Inv X pins σ (upd H a (.dK (mergeK kvs more))) s' → Q .none s') :
    wpAny (model X.prog X.w) A (call (.builtin "dict.update") [.ref a, .ref c]) Q E s := by
  obtain ⟨z, hd, vs, rel, dd⟩ := dk_of I.hok e
  obtain ⟨z2, hd2, us, rel2, dd2⟩ := dk_rd I.hok e2
  refine call_meetsIn PySem.F.slot_dict_update dd.typeIs PySem.F.entry_dict_update (PySem.F.args_dict_update_2 _ _) (meets_dict_update (mixKind X.prog X.w) a c ne hd2) ⟨vs, us, dd, dd2, by rw [← rel.length, ← rel2.length]; exact hl, fun h' dd' _ hs => h _ ?_⟩
  have he : ∃ q, h'.get? a = some q := let ⟨q, _, _, hq, _⟩ := dd'; ⟨q, hq⟩
  exact d_write (t' := s.toks) I (by rw [e]; exact True.intro) hs he (dk_new (Nat.le_trans (length_mergeK more kvs) hl) hd (KV.merge rel2 rel) dd')
end
def tUpd (td ty : TE) : TE := fun σ H Q => td σ H fun x H1 => ∃ a, x = .ref a ∧ IsD H1 a ∧ ty σ H1 fun y H2 => ∃ c kvs more, y = .ref c ∧ H2 a = some (.dK kvs) ∧ Rd H2 c (.dK more) ∧ a ≠ c ∧ kvs.length + more.length ≤ sizeLine ∧ Q .non (upd H2 a (.dK (mergeK kvs more)))
section
variable {X : Cx} {o e : Expr} {td ty : TE} {apos cpos : Pos}
theorem pe_upd (ho : PE X o td) (he : PE X e ty) (m : M1 X o "update" apos e cpos) : PE X (.Call (.Attribute o "update" apos) [e] [] cpos) (tUpd td ty) := by
  refine ⟨fun pins s σ H Q I h => ?_⟩
  refine wpAny_Call_method m.base m.few m.line PySem.F.plainAttrs_dict PySem.F.slot_dict_update PySem.F.type_dict_update (thn (ho.run pins s σ H _ I h) fun u s1 ⟨x, H1, I1, rx, a, ex, d, q1⟩ => ?_)
  subst ex
  obtain rfl : u = Value.ref a := rx
  obtain ⟨t1, t2, _⟩ := isD_at I1 d
  refine ⟨t1, t2, ?_⟩
  rw [m.trees]
  refine Calls.callWith_builtin rfl (Calls.evalArgs_plain (Calls.spliced_cons (thn (he.run pins s1 σ H1 _ I1 q1) fun iv s2 ⟨y, H2, I2, ry, c, kvs, more, ey, ea, ec, ne, hl, q2⟩ => Calls.spliced_nil ?_)))
  subst ey
  obtain rfl : iv = Value.ref c := ry
  exact d_update I2 ea ec ne hl fun s3 I3 => ⟨.non, _, I3, rfl, q2⟩
end
/-! ### the answers -/
/-- what is known of the class of the error whose answer is j -/
structure ResC (K : PySem.W.Frag) (C : Str → Addr) (CT : Addr) (j : Str) : Prop where
  mem : j ∈ resL
  ec : ExcC K (C j)
  kit : ∀ y ∈ resL, PySem.W.kitOne K (.ref (C j)) (.ref (C y)) = some (decide (y = j))
  ve : PySem.W.kitOne K (.ref (C j)) (.type "ValueError") = some true
  exm : PySem.W.exmOne K (.ref (C j)) (.ref CT) = some true
abbrev Gr (H H' : Hp) : Prop := ∀ b o, H b = some o → H' b = some o
def kvF (j : Str) (l : List Str) : List (Key × V) := l.map fun y => (.inr y, .bl (decide (y = j)))
theorem mergeK_app : ∀ (more kvs : List (Key × V)), ((kvs ++ more).map (·.1)).Nodup → mergeK kvs more = kvs ++ more
  | [], kvs, _ => by rw [List.append_nil]; rfl
  | p :: r, kvs, h => by
    have hn : valV kvs p.1 = none := by
      cases q : valV kvs p.1 with
      | none => rfl
      | some v =>
        exfalso
        unfold valV at q
        obtain ⟨kv, h1, h2⟩ := Option.map_eq_some_iff.mp q
        have m1 := List.mem_of_find?_eq_some h1
        have e1 := List.find?_some h1
        simp only [decide_eq_true_eq] at e1
        rw [List.map_append, List.map_cons] at h
        exact (List.nodup_append.mp h).2.2 kv.1 (List.mem_map.mpr ⟨kv, m1, rfl⟩) p.1 List.mem_cons_self e1
    show mergeK (putK kvs p.1 p.2) r = _
    rw [putK_new _ hn, mergeK_app r _ (by rw [List.append_assoc]; exact h), List.append_assoc]
    rfl
theorem kvF_nodup {j : Str} {l : List Str} (h : l.Nodup) : ((kvF j l).map (·.1)).Nodup := by
  unfold kvF
  rw [List.map_map]
  exact List.Pairwise.map _ (fun a b hab e => hab (Sum.inr.inj e)) h
theorem kvF_app (j : Str) (l r : List Str) : kvF j (l ++ r) = kvF j l ++ kvF j r := by unfold kvF; rw [List.map_append]
theorem kvF_merge {j : Str} {l r : List Str} (h : (l ++ r).Nodup) : mergeK (kvF j l) (kvF j r) = kvF j (l ++ r) := by
  rw [mergeK_app _ _ (by rw [← kvF_app]; exact kvF_nodup h), kvF_app]
abbrev tW (x : Str) : TE := tC (.str x)
def tIsC (K : PySem.W.Frag) (c : V) : TE := tCB (rIsX K) (tCons (tVar 1) (tCons (tC c) tNil))
def prs (K : PySem.W.Frag) (C : Str → Addr) (l : List Str) : List (TE × TE) := l.map fun y => (tW y, tIsC K (.ref (C y)))
section
variable {K : PySem.W.Frag} {C : Str → Addr} {CT : Addr} {j : Str} {σ : L2.St} {a : Addr}
theorem isC_read (R : ResC K C CT j) {y : Str} (hy : y ∈ resL) (hσ : σ[1]? = some (some (.ref a))) {H : Hp} (hE : H a = some (ErrO (.ref (C j)) a)) {Q : VK} (q : Q (.bl (decide (y = j))) H) : tIsC K (.ref (C y)) σ H Q :=
  ⟨.ref a, hσ, a, C j, .ref (C y), .ref (C y), _, rfl, hE, R.ec, fun u r => r, R.kit y hy, q⟩
theorem prs_read (R : ResC K C CT j) (hσ : σ[1]? = some (some (.ref a))) {H : Hp} (hE : H a = some (ErrO (.ref (C j)) a)) : ∀ (l : List Str) (Q : List (V × V) → Hp → Prop), (∀ y ∈ l, y ∈ resL) → Q ((kvF j l).map fun kv => (kV kv.1, kv.2)) H → tPairs (prs K C l) σ H Q
  | [], Q, _, q => q
  | y :: l, Q, h, q => isC_read (y := y) R (h y List.mem_cons_self) hσ hE (prs_read R hσ hE l _ (fun z hz => h z (List.mem_cons_of_mem _ hz)) q)
theorem disp_read (R : ResC K C CT j) (hσ : σ[1]? = some (some (.ref a))) {H : Hp} (hE : H a = some (ErrO (.ref (C j)) a)) {l : List Str} (hl : ∀ y ∈ l, y ∈ resL) (hn : l.Nodup) (h15 : l.length ≤ 15) {Q : VK} (q : ∀ p, H p = none → Q (.ref p) (upd H p (.dK (kvF j l)))) : tDisp (prs K C l) σ H Q := by
  intro p hp
  have ne : a ≠ p := ne_of_none hE hp
  refine prs_read R hσ (by rw [upd_ne ne]; exact hE) l _ hl ⟨upd_same, kvF j l, rfl, by unfold kvF; rw [List.length_map]; exact h15, ?_⟩
  have e : mergeK [] (kvF j l) = kvF j l := by
    have := mergeK_app (kvF j l) [] (by rw [List.nil_append]; exact kvF_nodup hn)
    rw [List.nil_append] at this
    exact this
  rw [e, upd_upd]
  exact q p hp
/-- where the walk stands: the dict at d holds the answers of l -/
structure At (H0 : Hp) (j : Str) (a d : Addr) (l : List Str) (C : Str → Addr) (H : Hp) : Prop where
  gr : Gr H0 H
  new : H0 d = none
  ob : H d = some (.dK (kvF j l))
  er : H a = some (ErrO (.ref (C j)) a)
theorem upd_read (R : ResC K C CT j) (hσ : σ[1]? = some (some (.ref a))) {d : Addr} (hd : σ[4]? = some (some (.ref d))) {H0 H : Hp} {l r : List Str} (x : At H0 j a d l C H) (hl : ∀ y ∈ r, y ∈ resL) (hn : (l ++ r).Nodup) (h15 : r.length ≤ 15) (h17 : l.length ≤ 17) {D : Ends} (q : ∀ H', At H0 j a d (l ++ r) C H' → D.nx σ H') :
    tDrop (tUpd (tVar 4) (tDisp (prs K C r))) D σ H := by
  refine ⟨.ref d, hd, d, rfl, .inl ⟨_, .inl x.ob⟩, disp_read R hσ x.er hl (List.nodup_append.mp hn).2.1 h15 fun p hp => ?_⟩
  have nd : d ≠ p := ne_of_none x.ob hp
  have na : a ≠ p := ne_of_none x.er hp
  have nad : a ≠ d := ne_of x.er x.ob (by unfold ErrO; intro z; cases z)
  refine ⟨p, kvF j l, kvF j r, rfl, by rw [upd_ne nd]; exact x.ob, .inl upd_same, nd, ?_, ?_⟩
  · unfold kvF
    rw [List.length_map, List.length_map, sizeLine_eq]
    omega
  · rw [kvF_merge hn]
    refine q _ ⟨fun b o e => ?_, x.new, upd_same, by rw [upd_ne nad, upd_ne na]; exact x.er⟩
    have h1 := x.gr b o e
    rw [upd_ne (ne_of_none e x.new), upd_ne (ne_of_none h1 hp)]
    exact h1
/-! ### the names -/
def tNames (K : PySem.W.Frag) : TS := tLock (tAsg (tLc (iKeys (tVar 4)) (gName 6) (fun σ H Q => tDGet (tVar 4) (tVar 6) σ H fun x H' => ∃ k, TruV K x H' k ∧ Q k H') (tVar 6) [6]) (gName 5))
theorem valV_kvF {j : Str} : ∀ {l : List Str} {y : Str}, y ∈ l → valV (kvF j l) (.inr y) = some (.bl (decide (y = j)))
  | x :: l, y, h => by
    by_cases e : x = y
    · subst e
      exact valV_pos (p := (Sum.inr x, V.bl (decide (x = j)))) rfl
    · have hy : y ∈ l := by
        rcases List.mem_cons.mp h with q | q
        · exact absurd q.symm e
        · exact q
      show valV ((Sum.inr x, V.bl (decide (x = j))) :: kvF j l) (.inr y) = _
      rw [valV_neg (fun z => e (Sum.inr.inj z))]
      exact valV_kvF hy
theorem names_read (R : ResC K C CT j) {d : Addr} {v0 v1 v2 : V} {H0 H : Hp} (x : At H0 j a d resL C H) {D : Ends}
    (q : ∀ H' p, At H0 j a d resL C H' → H' p = some (.lst [.str j]) → D.nx [some v0, some v1, some v2, none, some (.ref d), some (.ref p), none] H') :
    tNames K D [some v0, some v1, some v2, none, some (.ref d), none, none] H := by
  refine ⟨d, .dK (kvF j resL), x.ob, True.intro, fun od => ?_⟩
  refine ⟨.ref d, rfl, d, od, rfl, .inl ⟨kvF j resL, upd_same, fun p hp => ?_⟩⟩
  have nad : a ≠ d := ne_of x.er x.ob (by unfold ErrO; intro z; cases z)
  have ndp : d ≠ p := fun e => by rw [← e, upd_same] at hp; cases hp
  have hp0 : H p = none := by rw [upd_ne (Ne.symm ndp)] at hp; exact hp
  have nap : a ≠ p := ne_of_none x.er hp0
  have hlen : (kvF j resL).length = 17 := by unfold kvF; rw [List.length_map]; rfl
  -- at the i-th turn
  refine ⟨fun i m Hc => m = 17 - i ∧ i ≤ 17 ∧ (∀ b, b ≠ d → b ≠ p → Hc b = H b) ∧ Hc d = some (.frz od (.dK (kvF j resL))) ∧ Hc p = some (.lst (((resL.take i).filter fun y => decide (y = j)).map V.str)), ⟨17, rfl, Nat.zero_le _, fun b b1 b2 => by rw [upd_ne b2, upd_ne b1], by rw [upd_ne ndp, upd_same], upd_same⟩, ?_⟩
  rintro i m Hc ⟨rfl, hi, h1, h2, h3⟩
  by_cases hlt : i < 17
  · refine .inr ⟨⟨h2, by rw [hlen]; exact hlt⟩, fun Hn => i + 1 ≤ 17 ∧ (∀ b, b ≠ d → b ≠ p → Hn b = H b) ∧ Hn d = some (.frz od (.dK (kvF j resL))) ∧ Hn p = some (.lst (((resL.take (i + 1)).filter fun y => decide (y = j)).map V.str)), fun H' h => ⟨17 - (i + 1), by omega, rfl, h⟩, fun y H' hy => ?_⟩
    obtain ⟨e, k, v, hk, ey⟩ := hy
    subst e ey
    have hr : resL[i]? = some resL[i] := List.getElem?_eq_getElem (by show i < 17; exact hlt)
    generalize hz : resL[i] = z at hr
    have hk2 : (kvF j resL)[i]? = some (.inr z, .bl (decide (z = j))) := by
      unfold kvF
      rw [List.getElem?_map, hr]
      rfl
    rw [hk2] at hk
    cases hk
    have hm : z ∈ resL := List.mem_of_getElem? hr
    have tk : resL.take (i + 1) = resL.take i ++ [z] := by rw [List.take_add_one, hr]; rfl
    refine ⟨rfl, .ref d, rfl, .str z, rfl, d, .bl (decide (z = j)), rfl, .inl ⟨kvF j resL, .inr z, .inr ⟨od, h2⟩, rfl, (valV_kvF hm).symm⟩, decide (z = j), rfl, ?_⟩
    by_cases hzj : z = j
    · rw [decide_eq_true hzj]
      refine iteT ⟨.str z, rfl, _, h3, ?_, by omega, fun b b1 b2 => by rw [upd_ne b2]; exact h1 b b1 b2, by rw [upd_ne ndp]; exact h2, ?_⟩
      · rw [List.length_map, sizeLine_eq]
        have := List.length_filter_le (fun y => decide (y = j)) (resL.take i)
        rw [List.length_take] at this
        omega
      · rw [upd_same, tk, List.filter_append, List.map_append]
        have : [z].filter (fun y => decide (y = j)) = [z] := by simp [hzj]
        rw [this]
        rfl
    · rw [decide_eq_false hzj]
      refine iteF ⟨by omega, h1, h2, ?_⟩
      have : [z].filter (fun y => decide (y = j)) = [] := by simp [hzj]
      rw [tk, List.filter_append, this, List.append_nil]
      exact h3
  · have e : i = 17 := by omega
    subst e
    refine .inl ⟨⟨h2, by rw [hlen]; exact Nat.le_refl _⟩, h2, ?_⟩
    have fl : ((resL.take 17).filter fun y => decide (y = j)) = [j] := by
      have := R.mem
      simp only [resL, List.mem_cons, List.not_mem_nil, or_false] at this
      rcases this with e | e | e | e | e | e | e | e | e | e | e | e | e | e | e | e | e <;> subst e <;> decide
    rw [fl] at h3
    refine q _ p ⟨fun b o e => ?_, x.new, upd_same, ?_⟩ ?_
    · have g := x.gr b o e
      rw [upd_ne (ne_of_none e x.new), h1 b (ne_of_none e x.new) (ne_of_none g hp0)]
      exact g
    · rw [upd_ne nad, h1 a nad nap]
      exact x.er
    · rw [upd_ne (Ne.symm ndp)]
      exact h3
/-! ### the whole tail -/
def tEnd (K : PySem.W.Frag) : TS := tRet (tIf (tAnd (tTest (tOp rEq (tCB (fun xs H Q => ∃ x n, xs = [x] ∧ LenV K x H n ∧ Q (.int n) H) (tCons (tVar 5) tNil)) (tC (.int 1)))) (L2.tB (tIsC K (.ty "ValueError")))) (tTup (tCons (tOp (rIxL K) (tVar 5) (tC (.int 0))) tNil)) (tTup (tCons (tW "other error") tNil)))
def tErr (K : PySem.W.Frag) (C : Str → Addr) : TS :=
  tSeq (tAsg (tDisp (prs K C ["model", "test"])) (gName 4))
  (tSeq (tDrop (tUpd (tVar 4) (tDisp (prs K C ["combination", "suite"]))))
  (tSeq (tDrop (tUpd (tVar 4) (tDisp (prs K C ["strength", "text"]))))
  (tSeq (tDrop (tUpd (tVar 4) (tDisp (prs K C ["hypothesis", "number"]))))
  (tSeq (tDrop (tUpd (tVar 4) (tDisp (prs K C ["results", "index"]))))
  (tSeq (tDrop (tUpd (tVar 4) (tDisp (prs K C ["large", "many"]))))
  (tSeq (tDrop (tUpd (tVar 4) (tDisp (prs K C ["unexplained", "same"]))))
  (tSeq (tDrop (tUpd (tVar 4) (tDisp (prs K C ["contradiction", "use"]))))
  (tSeq (tDrop (tUpd (tVar 4) (tDisp (prs K C ["undo"]))))
  (tSeq (tNames K) (tEnd K))))))))))
theorem err_read (R : ResC K C CT j) {v0 v2 : V} {H : Hp} (hE : H a = some (ErrO (.ref (C j)) a)) {D : Ends} (q : ∀ H' p, Gr H H' → H p = none → H' p = some (.tup [.str j]) → D.rt (.ref p) H') :
    tErr K C D [some v0, some (.ref a), some v2, none, none, none, none] H := by
  unfold tErr tSeq tAsg
  refine disp_read (l := ["model", "test"]) (σ := [some v0, some (.ref a), some v2, none, none, none, none]) R rfl hE (by decide) (by decide) (by decide) fun d hd => ?_
  have x0 : At H j a d ["model", "test"] C (upd H d (.dK (kvF j ["model", "test"]))) := ⟨fun b o e => by rw [upd_ne (ne_of_none e hd)]; exact e, hd, upd_same, by rw [upd_ne (ne_of_none hE hd)]; exact hE⟩
  refine upd_read (r := ["combination", "suite"]) (σ := [some v0, some (.ref a), some v2, none, some (.ref d), none, none]) R rfl rfl x0 (by decide) (by decide) (by decide) (by decide) fun H1 x1 => ?_
  refine upd_read (r := ["strength", "text"]) (σ := [some v0, some (.ref a), some v2, none, some (.ref d), none, none]) R rfl rfl x1 (by decide) (by decide) (by decide) (by decide) fun H2 x2 => ?_
  refine upd_read (r := ["hypothesis", "number"]) (σ := [some v0, some (.ref a), some v2, none, some (.ref d), none, none]) R rfl rfl x2 (by decide) (by decide) (by decide) (by decide) fun H3 x3 => ?_
  refine upd_read (r := ["results", "index"]) (σ := [some v0, some (.ref a), some v2, none, some (.ref d), none, none]) R rfl rfl x3 (by decide) (by decide) (by decide) (by decide) fun H4 x4 => ?_
  refine upd_read (r := ["large", "many"]) (σ := [some v0, some (.ref a), some v2, none, some (.ref d), none, none]) R rfl rfl x4 (by decide) (by decide) (by decide) (by decide) fun H5 x5 => ?_
  refine upd_read (r := ["unexplained", "same"]) (σ := [some v0, some (.ref a), some v2, none, some (.ref d), none, none]) R rfl rfl x5 (by decide) (by decide) (by decide) (by decide) fun H6 x6 => ?_
  refine upd_read (r := ["contradiction", "use"]) (σ := [some v0, some (.ref a), some v2, none, some (.ref d), none, none]) R rfl rfl x6 (by decide) (by decide) (by decide) (by decide) fun H7 x7 => ?_
  refine upd_read (r := ["undo"]) (σ := [some v0, some (.ref a), some v2, none, some (.ref d), none, none]) R rfl rfl x7 (by decide) (by decide) (by decide) (by decide) fun H8 x8 => ?_
  have x8 : At H j a d resL C H8 := x8
  refine names_read R x8 fun H9 p x9 hp => ?_
  refine ⟨.ref p, rfl, .ref p, 1, rfl, .inl ⟨[.str j], .inl (.inl hp), rfl⟩, rfl, true, rfl, ?_⟩
  refine iteT ⟨.ref a, rfl, a, C j, .ty "ValueError", .type "ValueError", true, rfl, x9.er, R.ec, fun u r => r, R.ve, true, rfl, ?_⟩
  refine iteT ⟨.ref p, rfl, p, [.str j], 0, .str j, rfl, rfl, .inl (.inl hp), atI_nat (xs := [V.str j]) (j := 0) rfl, (by rw [sizeLine_eq]; show 1 ≤ 16777216; omega), fun r hr => ?_⟩
  refine q _ r (fun b o e => ?_) ?_ upd_same
  · have g := x9.gr b o e
    rw [upd_ne (ne_of_none g hr)]
    exact g
  · cases e : H r with
    | none => rfl
    | some o =>
      have g := x9.gr r o e
      rw [hr] at g
      cases g
end
end Ev

set_option Elab.async false
set_option linter.all false
set_option maxRecDepth 100000
set_option maxHeartbeats 2000000
set_option autoImplicit false
/-! EvLam2: _law_result(lambda: e) over the bundle. -/
namespace Ev
open PySem PySem.Spec PyProof.Rows L2
/-! ### the text of _law_result -/
def sutT : Addr → Value → TS := fun _ _ => tAsg (tVar 3) (gName 1)
abbrev rNn : R2 := fun x y H Q => y = .non ∧ Q (.bl (decide (x = .non))) H
def t_result (K : PySem.W.Frag) (C : Str → Addr) (CT : Addr) (act : WX → TE) : TS :=
  tSeq (tAsg (tTup (tCons (tC .non) (tCons (tC .non) tNil))) (gTup K 2 (gCons (gName 1) (gCons (gName 2) gNil))))
  (tSeq (fun D σ H => tAsg (act (wKept K (.ref CT) 3 sutT D)) (gName 2) D σ H)
  (tSeq (tIfS (tTest (tOp rNn (tVar 1) (tC .non))) (tRet (tTup (tCons (tW "returns") (tCons (tVar 2) tNil)))) tNext)
  (tErr K C)))
def nRes : List Str := ["call", "raised", "result", "e", "some", "names", "name"]
section
variable {T : Tb} {fd : Nat → FuncData} {ca : Nat → Addr} {b : Bx} {cf : CF} {k fu : Nat} {X : Cx} {N : List Str} {sc : Scope} {fv : Str → Bool} (O : Ok T fd ca b cf k X N sc fv)
include O
theorem nm_ {i : Nat} {y : Str} {pos : Pos} (h : tB N sc fv i y = true := by decide +kernel) : PG X (.Name y pos) (gName i) := pg_name (O.t h).1 (O.t h).2.1 (O.t h).2.2.1 (O.t h).2.2.2
theorem isx_ {j : Nat} {x : Str} {p1 p2 p3 pos : Pos} (h : xB T sc j x = true := by decide +kernel) (hi : bB T sc "isinstance" = true := by decide +kernel) (hv : vB N sc 1 "raised" = true := by decide +kernel) :
    PE X (.Call (.Name "isinstance" p1) [.Name "raised" p2, .Name x p3] [] pos) (tIsC X.K (.ref (ca j))) :=
  pe_callB call_isX (O.blt hi).1 (O.blt hi).2.1 rfl (pa_cons (v_ O hv) (pa_cons (pe_glob (v := .ref (ca j)) (O.x h).1 (O.x h).2.1.mg rfl (O.x h).2.2.2) pa_nil)) (O.blt hi).2.2.2 (O.blt hi).2.2.1
theorem isv_ {p1 p2 p3 pos : Pos} (h : bB T sc "ValueError" = true := by decide +kernel) (hi : bB T sc "isinstance" = true := by decide +kernel) (hv : vB N sc 1 "raised" = true := by decide +kernel) :
    PE X (.Call (.Name "isinstance" p1) [.Name "raised" p2, .Name "ValueError" p3] [] pos) (tIsC X.K (.ty "ValueError")) :=
  pe_callB call_isX (O.blt hi).1 (O.blt hi).2.1 rfl (pa_cons (v_ O hv) (pa_cons (pe_bltn (v := .ty "ValueError") (u := .type "ValueError") (O.blt h).1 (O.blt h).2.1 (by decide +kernel) rfl (O.blt h).2.2.2 (O.blt h).2.2.1) pa_nil)) (O.blt hi).2.2.2 (O.blt hi).2.2.1
theorem nones_ {x y : Str} {px py pt pt2 pos p1 p2 : Pos} {i j kt k2 j1 j2 : Nat} (h : (oneC sc x y px py (.Constant .none j1 p1) (.Constant .none j2 p2) && tB N sc fv i x && tB N sc fv j y) = true := by decide +kernel) :
    PS X (.Assign [.Tuple [.Name x px, .Name y py] kt pt] (.Tuple [.Constant .none j1 p1, .Constant .none j2 p2] k2 pt2) pos) (tAsg (tTup (tCons (tC .non) (tCons (tC .non) tNil))) (gTup X.K 2 (gCons (gName i) (gCons (gName j) gNil)))) := by
  simp only [Bool.and_eq_true] at h
  have hk : X.env.scope.kind = .function := by rw [O.esc]; exact O.kd
  have hb : X.env.blockKind = .function := by unfold Env.blockKind; rw [hk]; rfl
  exact ps_asg (pe_tup (pa_cons pe_non (pa_cons pe_non pa_nil))) (pg_tup O.calm (pgs_cons (nm_ O h.1.2) (pgs_cons (nm_ O h.2) pgs_nil))) rfl (sw2_no hb O.esc h.1.1) rfl
theorem asT_ {i : Nat} {y : Str} {py pos : Pos} {e : Expr} {te : TE} {pn : List (Addr × Obj)} {xe : Value → Shared → Prop} (he : PE (X.tr pn xe) e te) (h : tB N sc fv i y = true := by decide +kernel) (hn : notComp e = true := by rfl) : PS (X.tr pn xe) (.Assign [.Name y py] e pos) (tAsg te (gName i)) :=
  ps_set (X := X.tr pn xe) (O.t h).1 (O.t h).2.1 (O.t h).2.2.1 he (swaps_no hn) (O.t h).2.2.2
theorem asS_ {i j : Nat} {y z : Str} {py pz pos : Pos} {a : Addr} {pn : List (Addr × Obj)} (h : tB N sc fv i y = true := by decide +kernel) (hv : vB N sc j z = true := by decide +kernel) : PS (X.suite a pn) (.Assign [.Name y py] (.Name z pz) pos) (tAsg (tVar j) (gName i)) :=
  ps_set (X := X.suite a pn) (O.t h).1 (O.t h).2.1 (O.t h).2.2.1 (pe_var (X := X.suite a pn) (O.v hv).1 (O.v hv).2.1 (O.v hv).2.2.1 (O.v hv).2.2.2) (swaps_no rfl) (O.t h).2.2.2
theorem names_ {py pos spos p1 p2 p3 p4 p5 p6 : Pos} {scope : Scope} (hb : blkC N sc scope [("name", 6)] = true := by decide +kernel) (hy : decide (N[5]? = some ("names" : Str)) = true := by decide +kernel) (hw : swB sc scope "names" py pos = true := by decide +kernel)
    (h1 : vB N sc 4 "some" = true := by decide +kernel) (h2 : tB N (relS scope sc) (fun x => scope.names.lookup x == some .cell) 6 "name" = true := by decide +kernel) (h3 : vB N (relS scope sc) 6 "name" = true := by decide +kernel) (h4 : vB N (relS scope sc) 4 "some" = true := by decide +kernel) :
    PS X (.Assign [.Name "names" py] (.ListComp (.Name "name" p1) [⟨.Name "name" p2, .Name "some" p3, [.Subscript (.Name "some" p4) (.Name "name" p5) p6], 0⟩] scope pos) spos) (tNames X.K) := by
  have bo := blkOk_by hb
  have N' : BlkOk X.N X.env.scope scope [("name", 6)] := by rw [O.eN, O.esc]; exact bo
  have hl : (py.line == pos.line) = true := by simp only [swB, Bool.and_eq_true] at hw; exact hw.1.2
  obtain ⟨w1, w2⟩ := swap_true O hw hl (elt := .Name "name" p1) (gs := [⟨.Name "name" p2, .Name "some" p3, [.Subscript (.Name "some" p4) (.Name "name" p5) p6], 0⟩]) (l := spos.line)
  exact ps_lock (ps_setLc (own := [("name", 6)]) O.calm (by rw [O.eN]; exact O.nd) (by rw [O.eN]; exact of_decide_eq_true hy) w2 w1 (pi_keys (v_ O h1)) N' (fun s H C cl fp => nm_ (O.blk s H scope bo.kind C cl fp) h2)
    (fun s H C cl fp => pts_one (pt_truth (pe_dget (by have := (O.blk s H scope bo.kind C cl fp).un; omega) (v_ (O.blk s H scope bo.kind C cl fp) h4) (v_ (O.blk s H scope bo.kind C cl fp) h3) (fun _ _ => rfl)) (fun _ => rfl))) (fun s H C cl fp => v_ (O.blk s H scope bo.kind C cl fp) h3) (folded_no rfl))
theorem try_ {body suite : List Stmt} {b₀ : Stmt} {np pos pos' : Pos} {x n : Str} {i j : Nat} {tb : WX → TS} {ts : Addr → Value → TS} (hs : X.stack = X.env :: X.outer) (hf : X.env.frame = some X.env.locals) (hex : X.ex = [])
    (hb : ∀ (W : WX) (pn : List (Addr × Obj)) (xe : Value → Shared → Prop), Takes (X.tr pn xe) W → PassesOwn (model X.prog X.w) X.A X.env xe → PSs (X.tr pn xe) body (tb W))
    (hsu : ∀ (a : Addr) (oe : Obj) (cls : Value) (pn : List (Addr × Obj)), PSs (X.suite a ((a, oe) :: pn)) (b₀ :: suite) (ts a cls))
    (h : xB T sc j x = true := by decide +kernel) (hi : (decide (N[i]? = some n) && lclB sc n) = true := by decide +kernel) :
    PS X (.Try body [.ExceptHandler (some (.Name x np)) (some n) (b₀ :: suite) pos'] [] [] pos) (fun D σ H => tb (wKept X.K (.ref (ca j)) i ts D) D σ H) := by
  simp only [Bool.and_eq_true, decide_eq_true_eq] at hi
  refine ps_tryKept hs hf hex (by rw [O.eN]; exact O.nd) (by rw [O.eN]; exact hi.1) ?_ ⟨(O.x h).1, (O.x h).2.2.2, .inl (O.x h).2.1.mg⟩ hb hsu
  show X.env.scope.names.lookup n = _
  rw [O.esc]
  exact lcl_of hi.2
end
/-! ### its reading -/
def MonoT (tl : XK → Hp → VK → Prop) : Prop := ∀ (E E' : XK) (H : Hp) (Q Q' : VK), (∀ c d H', E c d H' → E' c d H') → (∀ v H', Q v H' → Q' v H') → tl E H Q → tl E' H Q'
def resTT (K : PySem.W.Frag) (C : Str → Addr) (CT : Addr) : (XK → Hp → VK → Prop) → Hp → VK → Prop := fun tl H Q => MonoT tl ∧ ∀ t, H t = none →
  tl (fun cls d H' => ∃ y, d = none ∧ cls = .ref (C y) ∧ ResC K C CT y ∧ ∀ H'' p, Gr H' H'' → H' p = none → H'' p = some (.tup [.str y]) → Q (.ref p) H'') (upd H t (.tup [.non, .non])) (fun v H' => ∀ p, H' p = none → Q (.ref p) (upd H' p (.tup [.str "returns", v])))
theorem result_read {K : PySem.W.Frag} {C : Str → Addr} {CT f k' : Addr} {q : Str} {H : Hp} {Q : VK} {tl : XK → Hp → VK → Prop} {act : WX → TE}
    (hact : ∀ W σ H Q, σ[0]? = some (some (V.ref f)) → H k' = some (LamX.CodeO k' q) → tl (fun cls d H' => W cls d σ H') H Q → act W σ H Q)
    (hc : H k' = some (LamX.CodeO k' q)) (h : resTT K C CT tl H Q) : t_result K C CT act { nx := fun _ H' => Q .non H', rt := Q } (L2.start nRes [.ref f]) H := by
  obtain ⟨mono, h⟩ := h
  have e0 : L2.start nRes [.ref f] = [some (.ref f), none, none, none, none, none, none] := rfl
  rw [e0]
  refine ⟨(by rw [sizeLine_eq]; show 2 ≤ 16777216; omega), fun t ht => ?_⟩
  refine ⟨t, [.non, .non], rfl, .inl (.inl upd_same), rfl, .non, [.non], rfl, .non, [], rfl, rfl, ?_⟩
  refine hact _ _ _ _ rfl (by rw [upd_ne (ne_of_none hc ht)]; exact hc) (mono _ _ _ _ _ (fun cls d H' hE => ?_) (fun v H' hv => ?_) (h t ht))
  · obtain ⟨y, hd, hcl, R, hy⟩ := hE
    subst hd hcl
    refine ⟨rfl, R.exm, fun a ha => ⟨.ref a, rfl, fun _ => ?_⟩⟩
    refine ⟨.ref a, rfl, rfl, decide (V.ref a = V.non), rfl, ?_⟩
    have hf : decide (V.ref a = V.non) = false := decide_eq_false (fun z => by cases z)
    rw [hf]
    refine iteF (err_read R (a := a) (v0 := .ref f) (v2 := .non) upd_same fun H'' p g hp h2 => hy H'' p (fun b o e => g b o (by rw [upd_ne (ne_of_none e ha)]; exact e)) ?_ h2)
    cases e : H' p with
    | none => rfl
    | some o =>
      rw [upd_ne (ne_of_none e ha), e] at hp
      cases hp
  · refine ⟨.non, rfl, rfl, true, rfl, iteT ⟨v, rfl, (by rw [sizeLine_eq]; show 2 ≤ 16777216; omega), hv⟩⟩
/-! ### the lambda over the bundle -/
/-- what the maker of a lambda has: its code object, its table -/
structure LamOk (k : Nat) (X : Cx) (b : Bx) : Prop where
  room : Room (k + 2) X.A
  tab : ∃ (c P : Addr) (i : Nat), LamX.TabB X.base X.mg c P ∧ X.env.code = .ref c ∧ b.z.tb[i]? = some (P, X.env.qual ++ "<lambda>")
theorem Wf.lam {z : Zt} {m : Mu} {F : Fz} {w : W} {H H1 : Hp} {i : Nat} {P : Addr} {q : Str} {ps : Array Value} (wf : Wf z m F w H) (hi : z.tb[i]? = some (P, q)) (hT : H P = some (.tbl ps)) (hF : ∀ (pos : Pos) (cv : Value), codeAmong pos ps.toList = some cv → ∃ c, cv = .ref c ∧ F c ∧ H c = some (LamX.CodeO c q)) (to : LamTo H P q ps H1) :
    ∃ F1, Fm m F H m F1 H1 ∧ Wf z m F1 w H1 := by
  rcases to with rfl | ⟨k, qs, hk, rfl, h2, h3⟩
  · exact ⟨F, Fm.refl _ _ _, wf⟩
  · obtain ⟨m1, w1⟩ := wf.tab i _ hi
    have mP : P ∈ m.flatten := List.mem_flatten.mpr ⟨_, List.mem_of_getElem? m1, by simp⟩
    have nPk : P ≠ k := ne_of_none hT hk
    have keep : ∀ a o, H a = some o → a ∉ m.flatten → upd (upd H P (.tbl qs)) k (LamX.CodeO k q) a = some o := fun a o e hn => by
      have na : a ≠ P := fun z => hn (by rw [z]; exact mP)
      rw [upd_ne (ne_of_none e hk), upd_ne na]
      exact e
    have dom : ∀ a o, H a = some o → ∃ o', upd (upd H P (.tbl qs)) k (LamX.CodeO k q) a = some o' := fun a o e => by
      by_cases ha : a = P
      · exact ⟨_, by rw [upd_ne (ne_of_none e hk), ha, upd_same]⟩
      · exact ⟨o, by rw [upd_ne (ne_of_none e hk), upd_ne ha]; exact e⟩
    have fm : Fm m F H m (frzA F k) (upd (upd H P (.tbl qs)) k (LamX.CodeO k q)) := ⟨keep, dom, fun _ h => .inl h, fun _ _ h => h, fun _ h => .inl h, fun a h => by
      rcases h with h | h
      · exact .inl h
      · exact .inr (h ▸ hk)⟩
    have keepF : ∀ a o, F a → H a = some o → upd (upd H P (.tbl qs)) k (LamX.CodeO k q) a = some o := fun a o hf e => keep a o e fun hm => wf.nF a hm hf
    refine ⟨frzA F k, fm, ⟨wf.len, fun n as mo e1 e2 => ?_, wf.nd, fun a hm hf => ?_, fun a hf => ?_, fun a hm => ?_, ?_, wf.tab⟩⟩
    · by_cases hn : n = i + 1
      · subst hn
        rw [m1] at e1
        rw [w1] at e2
        cases e1
        cases e2
        refine ⟨P, rfl, qs, by rw [upd_ne nPk, upd_same], h2, fun pos cv hc => ?_⟩
        rcases h3 pos cv hc with hc | hc
        · obtain ⟨c, e, f, hcc⟩ := hF pos cv hc
          exact ⟨c, e, .inl f, keepF c _ f hcc⟩
        · exact ⟨k, hc, .inr rfl, upd_same⟩
      · refine (wf.obj n as mo e1 e2).fm (fun a o ha e => ?_) (fun _ h => .inl h) keepF
        have na : a ≠ P := fun z => by
          subst z
          have pw := List.pairwise_iff_getElem.mp (List.pairwise_flatten.mp wf.nd).2
          obtain ⟨k1, q1⟩ := List.getElem?_eq_some_iff.mp e1
          obtain ⟨k2, q2⟩ := List.getElem?_eq_some_iff.mp m1
          rcases Nat.lt_or_gt_of_ne hn with z | z
          · exact (pw n (i + 1) k1 k2 z) a (by rw [q1]; exact ha) a (by rw [q2]; simp) rfl
          · exact (pw (i + 1) n k2 k1 z) a (by rw [q2]; simp) a (by rw [q1]; exact ha) rfl
        rw [upd_ne (ne_of_none e hk), upd_ne na]
        exact e
    · rcases hf with hf | hf
      · exact wf.nF a hm hf
      · obtain ⟨o, e⟩ := wf.mdom a hm
        rw [hf, hk] at e
        cases e
    · rcases hf with hf | hf
      · obtain ⟨o, e⟩ := wf.dom a hf
        exact dom a o e
      · exact ⟨LamX.CodeO k q, by rw [hf, upd_same]⟩
    · obtain ⟨o, e⟩ := wf.mdom a hm
      exact dom a o e
    · exact wf.scr.imp (fun ⟨a1, a2⟩ => ⟨.inl a1, Rd.keep a2 fun o e => keepF _ o a1 e⟩) id
/-- what is known of _law_result -/
structure ResFx (T : Tb) (fd : Nat → FuncData) (ca : Nat → Addr) (b : Bx) (cf : CF) (k : Nat) (K : PySem.W.Frag) (jr : Nat) (st : Stmt) (xn : List Str) : Prop where
  ps : T.ps jr = [("call" : Str)]
  fun_ : FunD K "_law_result" "_law_result" (defArgs st) (defBody st) (defScope st) [] [] (b.z.fa jr) (fd jr)
  sco : scB nRes ["call"] (defScope st) ⟨1, 7, .nil⟩ = true
  walk : ∀ (Z : Cx) (b' : Bx) (act : WX → TE), Ok T fd ca b' cf k Z nRes (defScope st) (fun _ => true) → Z.stack = Z.env :: Z.outer → Z.env.frame = some Z.env.locals → Z.ex = [] →
    (∀ (W : WX) (pn : List (Addr × Obj)) (xe : Value → Shared → Prop) (p1 p2 : Pos), Takes (Z.tr pn xe) W → PE (Z.tr pn xe) (.Call (.Name "call" p1) [] [] p2) (act W)) → PSs Z (defBody st) (t_result Z.K (fun y => ca (resL.idxOf y)) (ca 17) act)
  cls : ∀ (j : Nat) (y : Str), xn[j]? = some y → b.cl j = .ref (ca (resL.idxOf y)) ∧ ResC K (fun y => ca (resL.idxOf y)) (ca 17) y
theorem post_mono {α β : Type} {b : Bx} {E : XK} {m : Mu} {F : Fz} {H : Hp} {r : R α} {Rl : Mu → Fz → Hp → β → α → Prop} {Q Q' : β → Hp → Prop} (h : Post b m F H r Rl Q) (hE : ∀ c d H, b.E c d H → E c d H) (hQ : ∀ v H, Q v H → Q' v H) : Post { b with E := E } m F H r Rl Q' := by
  cases r with
  | ok d w => exact fun m' F' H' v f wf r => hQ _ _ (h m' F' H' v f wf r)
  | exc c w => exact fun m' F' H' f wf => hE _ _ _ (h m' F' H' f wf)
  | bad => exact h
section
variable {T : Tb} {fd : Nat → FuncData} {ca : Nat → Addr} {b : Bx} {cf : CF} {k fu : Nat} {X : Cx} {N : List Str} {sc : Scope} {fv : Str → Bool} (O : Ok T fd ca b cf k X N sc fv)
include O
theorem g_lam {jr : Nat} {st : Stmt} {xn : List Str} {body : Expr} {scope : Scope} {c : E} {p lpos pos : Pos} {params : Arguments} (L : LamOk k X b) (G : ResFx T fd ca b cf k X.K jr st xn)
    (hbody : ∀ (X' : Cx) (E : XK), Ok T fd ca { b with E := E } cf k X' N scope (fun _ => false) → PE X' body (rE { b with E := E } (evE cf c)))
    (hdef : defaultsOf params X.env = ([], []))
    (hbind : ∀ (q : Str) (cl : List (Str × Addr)) (pm cv ctv : Value), bindArgs (PySem.W.kla_fn "<lambda>" q params body scope cl pm cv ctv) ⟨[], []⟩ = pure [])
    (h : (fB T sc jr "_law_result" && LamX.lamSB sc scope) = true := by decide +kernel) :
    PE X (.Call (.Name "_law_result" p) [.Lambda params body scope lpos] [] pos) (rE b (evE cf (.lam xn c))) := by
  simp only [Bool.and_eq_true] at h
  obtain ⟨hf, hl⟩ := h
  have LS : LamX.LamS X.env.scope scope := by rw [O.esc]; exact LamX.lamS_by hl
  obtain ⟨cd, P, i, TB, hcode, hi⟩ := L.tab
  have hs := G.sco
  simp only [scB, Bool.and_eq_true, decide_eq_true_eq, Bool.not_eq_true'] at hs
  obtain ⟨⟨⟨⟨⟨⟨⟨⟨⟨h1, h2⟩, h3⟩, h4⟩, h5⟩, h6⟩, h7⟩, h8⟩, h9⟩, h10⟩ := hs
  have hkd : (defScope st).kind = .function := by
    split at h8
    · assumption
    · cases h8
  have S : FnScope nRes ["call"] (defScope st) := ⟨hkd, h9, h10, h1, h2, fun y hy => loc_of (List.all_eq_true.mp h3 y hy), fun y hy e => by
    have := List.all_eq_true.mp h4 y hy
    rw [e] at this
    cases this⟩
  have hva : Vis (defScope st) "call" := by
    rcases loc_of (List.all_eq_true.mp h3 "call" List.mem_cons_self) with q | q
    · exact .inl q
    · exact .inr (.inl q)
  obtain ⟨oc, od, dV, kV, doc, pm, an, cdv, ct, osl, efd, lk, hcd, hD, hK⟩ := G.fun_.ex
  have hb := O.bd jr (O.f hf).1
  rw [G.ps, efd] at hb
  rw [efd] at lk
  have hG : GivesS X k nRes "_law_result" (defScope st) (b.z.fa jr) cdv (defBody st) "call" (X.env.qual ++ "<lambda>") (resTT X.K (fun y => ca (resL.idxOf y)) (ca 17)) := by
    intro f k' s H Q tl hr act hc hT
    have O' : Ok T fd ca { b with E := fun _ _ _ => False } cf k (cxOf C8.CX0 X.prog X.w X.K X.mg X.base nRes "_law_result" (defScope st) (b.z.fa jr) cdv X.A X.stack s H C8.E0).nox nRes (defScope st) (fun _ => true) :=
      { eN := rfl, nd := h1, esc := rfl, kd := hkd, efv := rfl, calm := rfl, room := hr.mono (Nat.le_succ _), ew := O.ew, tk := LamX.takes0, fns := O.fns, mgf := O.mgf, kp := O.kp, bd := O.bd, kb := O.kb, bl := O.bl, gi := O.gi, ex := O.ex }
    exact ⟨_, G.walk _ _ (fun W σZ HZ Q => σZ[0]? = some (some (.ref f)) ∧ HZ k' = some (LamX.CodeO k' (X.env.qual ++ "<lambda>")) ∧ tl (fun cls d H' => W cls d σZ H') HZ Q) O' rfl rfl rfl (fun W pn xe p1 p2 tk => act W pn xe p1 p2 tk), result_read (fun W σ H Q a1 a2 a3 => ⟨a1, a2, a3⟩) hc hT⟩
  refine (pe_lamR (k := k) (t := fun E => rE { b with E := E } (evE cf c)) (O.f hf).2.1 (O.f hf).2.2.1 (O.kp jr (O.f hf).1) lk hcd hb S rfl hva hG TB hcode L.room LS hdef hbind (fun A outer s H E f k' hr => hbody _ E ?_) (O.f hf).2.2.2 (by decide) (by decide)).imp fun σ H Q hq => ?_
  · exact { eN := O.eN, nd := O.nd, esc := rfl, kd := LS.kind, efv := rfl, calm := rfl, room := hr, ew := O.ew, tk := takes_of rfl rfl rfl rfl, fns := O.fns, mgf := O.mgf, kp := O.kp, bd := O.bd, kb := O.kb, bl := O.bl, gi := O.gi, ex := O.ex }
  · obtain ⟨m, F, s, w, wf, sl, p⟩ := hq
    have p : Post b m F H (resM xn (evE cf c s) w) (Rep b.z) Q := by simpa only [evE] using p
    obtain ⟨m1, w1⟩ := wf.tab i _ hi
    obtain ⟨P', e, ps, hP, ht, hF⟩ := wf.obj (i + 1) _ _ m1 w1
    cases e
    refine ⟨ps, ⟨hP, ht, fun pos cv hc => ?_⟩, fun H1 to => ⟨fun E E' H Q Q' hE hQ ⟨m, F, s, w, wf, sl, p⟩ => ⟨m, F, s, w, wf, sl, ?_⟩, fun t hn => ?_⟩⟩
    · obtain ⟨c, e, _, hcc⟩ := hF pos cv hc
      exact ⟨c, e, hcc⟩
    · exact post_mono (b := { b with E := E }) p hE hQ
    · obtain ⟨F1, fm1, wf1⟩ := wf.lam hi hP hF to
      have fm2 := fm1.trans (Fm.laid (m := m) (F := F1) (o := .tup [.non, .non]) hn)
      have wf2 := wf1.laid (o := .tup [.non, .non]) hn
      refine ⟨m, F1, s, w, wf2, sl.fm wf fm2, ?_⟩
      have p2 : Post b m F1 (upd H1 t (.tup [.non, .non])) (resM xn (evE cf c s) w) (Rep b.z) Q := p.after fm2
      unfold resM at p2
      cases q : evE cf c s w with
      | bad => rw [q] at p2; exact p2
      | ok d w' =>
        rw [q] at p2
        refine fun m' F' H' v f wf' r u hu => p2 m' (frzA F' u) _ (.ref u) (f.trans (Fm.laidF hu)) (wf'.laidF hu) (.tup (.inr rfl) upd_same (.cons (.str _) (.cons ?_ .nil)))
        exact wf'.rep (Fm.laidF hu) r
      | exc j w' =>
        rw [q] at p2
        cases e : xn[j]? with
        | none => simp only [e] at p2; exact p2.elim
        | some y =>
          simp only [e] at p2
          obtain ⟨ecl, R⟩ := G.cls j y e
          intro m' F' H' f wf'
          refine ⟨y, rfl, ecl, R, fun H'' u g hu h'' => ?_⟩
          have hold : ∀ a o, H' a = some o → H'' a = some o := g
          refine p2 m' (frzA F' u) H'' (.ref u) (f.trans ⟨fun a o e _ => g a o e, fun a o e => ⟨o, g a o e⟩, fun _ h => .inl h, fun _ _ h => h, fun _ h => .inl h, fun a h => ?_⟩) (wf'.more (fun _ h => .inl h) g fun a h => ?_) (.tup (.inr rfl) h'' (.cons (.str _) .nil))
          · rcases h with h | h
            · exact .inl h
            · exact .inr (h ▸ hu)
          · rcases h with h | h
            · obtain ⟨o, eo⟩ := wf'.dom a h
              exact ⟨.inl h, o, g a o eo⟩
            · subst h
              exact ⟨.inr (.inl hu), _, h''⟩
end
end Ev

set_option Elab.async false
set_option linter.all false
set_option maxRecDepth 100000
set_option maxHeartbeats 2000000
set_option autoImplicit false
/-! EvHead2: heads with tables of code objects and facts of the error classes; the law's call. -/
namespace Ev
open PySem PySem.Spec PyProof.Rows L2
section
variable {P : Program} {w : World} {K : PySem.W.Frag} {mg : Str → Option Value} {base : Heap}
/-- a def that makes lambdas -/
theorem def_okL {T : Tb} {fd : Nat → FuncData} {ca : Nat → Addr} {z : Zt} {cl : Nat → Value} {cf : CF} {k fu : Nat} (hw : z.wd = w) (A0 : Fx T fd ca z cl K mg) (IH : ∀ j, j < T.fn.length → FnOk P w K mg base (L2.CX P w) k (z.fa j) (fd j) (T.ps j) (spF z cl (cf j) (T.ps j).length))
    {x : Str} {st : Stmt} {f : Addr} {fdat : FuncData} {N ps : List Str} {fn : Fn} (F : FunD K x x (defArgs st) (defBody st) (defScope st) [] [] f fdat) (hs : scB N ps (defScope st) fn = true)
    (hT : ∃ (c P : Addr) (i : Nat), LamX.TabB base mg c P ∧ fdat.code = .ref c ∧ z.tb[i]? = some (P, x ++ ".<locals>." ++ "<lambda>"))
    (hb : ∀ (X : Cx) (b : Bx), b.z = z → b.cl = cl → X.K = K → Ok T fd ca b cf k X N (defScope st) (fun _ => true) → PassesOwn (model X.prog X.w) X.A X.env X.xe → LamOk k X b → PSs X (defBody st) (rS b (evB cf fu fn.body))) :
    FnOk P w K mg base (L2.CX P w) (k + 3) f fdat ps (spF z cl (runF cf fu fn) ps.length) := by
  simp only [scB, Bool.and_eq_true, decide_eq_true_eq, Bool.not_eq_true'] at hs
  obtain ⟨⟨⟨⟨⟨⟨⟨⟨⟨h1, h2⟩, h3⟩, h4⟩, h5⟩, h6⟩, h7⟩, h8⟩, h9⟩, h10⟩ := hs
  have hkd : (defScope st).kind = .function := by
    split at h8
    · assumption
    · cases h8
  have S : FnScope N ps (defScope st) := ⟨hkd, h9, h10, h1, h2, fun y hy => loc_of (List.all_eq_true.mp h3 y hy), fun y hy e => by
    have := List.all_eq_true.mp h4 y hy
    rw [e] at this
    cases this⟩
  obtain ⟨oc, od, dV, kV, doc, pm, an, cdv, ct, osl, rfl, lk, hcd, _, _⟩ := F.ex
  obtain ⟨c, Pt, i, tB, ec, hi⟩ := hT
  have ec : cdv = .ref c := ec
  refine fn_of lk hcd S (fun vs H Q E h => h.1) fun A outer s H vs Q E hr h => ?_
  obtain ⟨hl, m, Fz, w', ds, wf, r, p⟩ := h
  have O : Ok T fd ca (⟨z, cl, E, H, m, Fz⟩ : Bx) cf k (cxOf (L2.CX P w) P w K mg base N x (defScope st) f cdv A outer s H E) N (defScope st) (fun _ => true) :=
    { eN := rfl, nd := h1, esc := rfl, kd := hkd, efv := rfl, calm := rfl, room := hr.mono (Nat.le_add_right _ _), ew := hw, tk := takes_of rfl rfl rfl rfl, fns := IH, mgf := A0.mgf, kp := A0.kp, bd := A0.bd, kb := A0.kb, bl := A0.bl, gi := A0.gi, ex := A0.ex }
  have L : LamOk k (cxOf (L2.CX P w) P w K mg base N x (defScope st) f cdv A outer s H E) (⟨z, cl, E, H, m, Fz⟩ : Bx) := ⟨hr, c, Pt, i, tB, ec, hi⟩
  refine ⟨_, hb _ _ rfl rfl rfl O (passes_of rfl) L, ?_⟩
  have hd : ds.length = fn.np := by rw [← r.length, hl, h6]
  refine ⟨m, Fz, startA fn ds, w', ⟨wf, start_sl h5 r (by omega), Fm.refl _ _ _⟩, ?_⟩
  have p : Post ⟨z, cl, E, H, m, Fz⟩ m Fz H (runF cf fu fn ds w') (Rep z) Q := p
  unfold runF at p
  rw [if_pos hd] at p
  cases e : evB cf fu fn.body (startA fn ds) w' with
  | ok o w1 =>
    rw [bnd_ok e] at p
    cases o with
    | nx s' => exact fun m' F' H' σ' fk rel => p m' F' H' .non rel.fm rel.wf .non
    | ct s' => exact p.elim
    | rt v => exact fun m' F' H' v wf' f r => p m' F' H' v f wf' r
  | exc c w1 =>
    rw [bnd_exc e] at p
    exact fun m' F' H' wf' f => p m' F' H' f wf'
  | bad =>
    rw [bnd_bad e] at p
    exact p.elim
end
/-! ### the error classes -/
def excB (K : PySem.W.Frag) (D : Addr) : Bool :=
  decide (PySem.W.findIn K (.ref D) "__getattribute__" = some (some (.builtin "BaseException.__getattribute__"))) && (decide (PySem.W.findIn K (.ref D) "__getattr__" = some none) && (decide (PySem.W.subIn K (.ref D) (.type "BaseException") = some true) && (PySem.W.hasDictIn K D &&
  (decide (PySem.W.findIn K (.ref D) "__class__" = some (some (.builtin "object.__class__"))) && (decide (PySem.W.specialIn K (.builtin "object.__class__") "__get__" = some (some (.builtin "getset_descriptor.__get__"))) && (decide (PySem.W.takesIn K (.builtin "object.__class__") = some true) && decide (PySem.W.mroIn K D (.type "object") = some true)))))))
theorem excB_ok {K : PySem.W.Frag} {D : Addr} (h : excB K D = true) : ExcC K D := by
  simp only [excB, Bool.and_eq_true, decide_eq_true_eq] at h
  exact ⟨h.1, h.2.1, h.2.2.1, h.2.2.2.1, h.2.2.2.2.1, h.2.2.2.2.2.1, h.2.2.2.2.2.2.1, h.2.2.2.2.2.2.2⟩
def resB (ex : List Str) (K : PySem.W.Frag) : Bool := resL.all fun j => excB K (He.ga K (ex.getD (resL.idxOf j) "")) && ((resL.all fun y => decide (PySem.W.kitOne K (.ref (He.ga K (ex.getD (resL.idxOf j) ""))) (.ref (He.ga K (ex.getD (resL.idxOf y) ""))) = some (decide (y = j)))) &&
  (decide (PySem.W.kitOne K (.ref (He.ga K (ex.getD (resL.idxOf j) ""))) (.type "ValueError") = some true) && decide (PySem.W.exmOne K (.ref (He.ga K (ex.getD (resL.idxOf j) ""))) (.ref (He.ga K (ex.getD 17 ""))) = some true)))
theorem resB_ok {ex : List Str} {K : PySem.W.Frag} (h : resB ex K = true) : ∀ j ∈ resL, ResC K (fun y => He.ga K (ex.getD (resL.idxOf y) "")) (He.ga K (ex.getD 17 "")) j := fun j hj => by
  have := List.all_eq_true.mp h j hj
  simp only [Bool.and_eq_true, decide_eq_true_eq, List.all_eq_true] at this
  exact ⟨hj, excB_ok this.1, this.2.1, this.2.2.1, this.2.2.2⟩
theorem idx_resL {j : Nat} {y : Str} (h : resL[j]? = some y) : resL.idxOf y = j := by
  obtain ⟨hj, e⟩ := List.getElem?_eq_some_iff.mp h
  have nd : resL.Nodup := by decide
  rw [← e]
  exact nd.idxOf_getElem _ hj
theorem resFx_of {T : Tb} {fd : Nat → FuncData} {ca : Nat → Addr} {z : Zt} {cl : Nat → Value} {b : Bx} {cf : CF} {k jr : Nat} {K : PySem.W.Frag} {mg : Str → Option Value} {st : Stmt} (A0 : Fx T fd ca z cl K mg) (ez : b.z = z) (ec : b.cl = cl) (hp : T.ps jr = [("call" : Str)])
    (F : FunD K "_law_result" "_law_result" (defArgs st) (defBody st) (defScope st) [] [] (z.fa jr) (fd jr)) (hs : scB nRes ["call"] (defScope st) ⟨1, 7, .nil⟩ = true) (hx : ∀ j, j < 17 → ∃ x, T.ex[j]? = some x)
    (walk : ∀ (Z : Cx) (b' : Bx) (act : WX → TE), Ok T fd ca b' cf k Z nRes (defScope st) (fun _ => true) → Z.stack = Z.env :: Z.outer → Z.env.frame = some Z.env.locals → Z.ex = [] →
      (∀ (W : WX) (pn : List (Addr × Obj)) (xe : Value → Shared → Prop) (p1 p2 : Pos), Takes (Z.tr pn xe) W → PE (Z.tr pn xe) (.Call (.Name "call" p1) [] [] p2) (act W)) → PSs Z (defBody st) (t_result Z.K (fun y => ca (resL.idxOf y)) (ca 17) act))
    (R : ∀ j ∈ resL, ResC K (fun y => ca (resL.idxOf y)) (ca 17) j) : ResFx T fd ca b cf k K jr st resL where
  ps := hp
  fun_ := ez ▸ F
  sco := hs
  walk := walk
  cls := fun j y e => by
    refine ⟨?_, R y (List.mem_of_getElem? e)⟩
    obtain ⟨x, hx⟩ := hx j (List.getElem?_eq_some_iff.mp e).1
    rw [ec, (A0.ex j x hx).2, idx_resL e]
/-! ### the head -/
def tfL (lam : List Str) : List He.Defn := lam.map fun x => (x, none)
def tbK (K : PySem.W.Frag) (lam : List Str) : List (Addr × Str) := lam.map fun x => ((He.cT K (x, none)).2, x ++ ".<locals>." ++ "<lambda>")
def exK (lam ex : List Str) (res : Bool) (K : PySem.W.Frag) : Bool := decide ((tbK K lam).map (·.1)).Nodup && (!res || resB ex K)
theorem lamT {K : PySem.W.Frag} {base : Heap} {mg : Str → Option Value} {lam : List Str} {i : Nat} {x : Str} {f : Addr} {fd : FuncData} {params : Arguments} {body : List Stmt} {scope : Scope} (hx : lam[i]? = some x) (F : FunD K x x params body scope [] [] f fd) (ef : f = He.fAd K (x, none))
    (hB : ∀ p ∈ (tfL lam).map (He.cT K), LamX.TabB base mg p.1 p.2) : ∃ (c P : Addr) (i : Nat), LamX.TabB base mg c P ∧ fd.code = .ref c ∧ (tbK K lam)[i]? = some (P, x ++ ".<locals>." ++ "<lambda>") := by
  obtain ⟨oc, od, dV, kV, doc, pm, an, cdv, ct, osl, rfl, lk, hcd, _, _⟩ := F.ex
  obtain ⟨c, rfl⟩ := He.codeIn_ref hcd
  have e1 : He.codeOf K (x, none) = c := He.codeOf_eq (by rw [← ef]; exact lk) rfl
  refine ⟨c, (He.cT K (x, none)).2, i, ?_, rfl, ?_⟩
  · have := hB (He.cT K (x, none)) (List.mem_map.mpr ⟨(x, none), List.mem_map.mpr ⟨x, List.mem_of_getElem? hx, rfl⟩, rfl⟩)
    have e2 : (He.cT K (x, none)).1 = c := e1
    rw [e2] at this
    exact this
  · unfold tbK
    rw [List.getElem?_map, hx]
    rfl
/-! ### the law's call -/
theorem walk_ofX {l : PySem.W.OpenLaw} {n k : Nat} {q : Program} {loose : List Str} {XP : (Str → Option Value) → Heap → Prop} {YP : World → Heap → Prop} {d : DefRec} {CX : World → CXT} {x : Str}
    (hn : l.most = some n) (hn2 : n ≤ sizeLine) (hdf : d.params.defaults = []) (hr : Room k callerA)
    (F : ∀ (w : World) (mg : Str → Option Value) (fa : Addr) (h : Heap), YP w h → h.Ns mainGlobals mg → mg d.name = some (.ref fa) →
      ∃ (K : PySem.W.Frag) (fd : FuncData) (cs : List (Addr × Addr)) (sp : List Int → Addr → Sp), K.In h ∧ (∀ p ∈ cs, h.get? p.2 = some { cls := .none, data := .fields #[] }) ∧ (∀ p ∈ cs, K.lookup p.2 = none) ∧ (∀ p ∈ cs, PySem.W.CodeHd h p.1 p.2) ∧ (∀ (s : Shared) (u : Value), BindsTo s fd ⟨[u], []⟩ [(x, u)]) ∧
        (∀ (H : Hp) (a : Addr) (ns : List Int), ns.length ≤ n → (∀ p ∈ cs, H p.2 = some (.tbl #[])) → SqL K H a (ns.map V.int) → sp ns a [.ref a] H (fun v _ => v = .bl true) fun _ _ _ => False) ∧
        ∀ (ns : List Int) (a : Addr) (base : Heap), K.In base → base.Ns mainGlobals mg → (∀ p ∈ cs, LamX.TabB base mg p.1 p.2) → FnOk l.prog w K mg base (CX w) k fa fd [x] (sp ns a))
    (hCX : ∀ (w : World) (H : Hp) (s : Shared) (e : Value) (s' : Shared), CX w [] H s (fun _ _ _ => False) e s' → False) :
    PySem.W.WalkO q loose XP YP l.row.toRowW d [] (fun f vs => PySem.call f vs) := by
  refine Att.attach_callB hn hdf fun w s₀ s₁ mg mb fa o pm cd doc a vs ns G Y ho hd hcd hmg hobj hints hlen hbits hg => ?_
  obtain ⟨K, fd, cs, sp, KX, hT, nT, C, hb, hsp, hF⟩ := F w mg fa _ Y G.T.g hmg
  exact LamX.law_callTs KX G.T.g G.T.b G.T.builtins G.T.nolimit hg hT nT C G.T.bmain hobj hints (Nat.le_trans hlen hn2) hr (hF ns a) hb (fun H hH hS => hsp H a ns hlen hH hS) fun H e s' => hCX w H s₁ e s'
end Ev

set_option Elab.async false
set_option linter.all false
set_option maxRecDepth 100000
set_option autoImplicit false
/-! EvCodes: the code of the defs (printed by gen.py codes). -/
namespace Ev
open PySem
/-- _law_is(result, expected); slots result, expected -/
def f_law_is : Fn := ⟨2, 2, .cons (.ret (.and (.isi .bool (.pk 0)) (.op .eq (.pk 0) (.pk 1)))) .nil⟩
/-- is_ascending(values); slots values, one, other -/
def f_is_ascending : Fn := ⟨1, 3, .cons (.ret (.bi .all (.comp (.op .lt (.pk 1) (.pk 2)) (.tup (.cons (.name 1) (.cons (.name 2) .nil))) (.zip (.var 0) (.sl (.pk 0) (.so (.int 1)) .no)) .yes [1, 2]))) .nil⟩
/-- is_integer(value); slots value -/
def f_is_integer : Fn := ⟨1, 1, .cons (.ret (.and (.isi .int (.pk 0)) (.not (.isi .bool (.pk 0))))) .nil⟩
/-- is_pair_of(sizes, value); slots sizes, value, one -/
def f_is_pair_of (i_is_integer : Nat) : Fn := ⟨2, 3, .cons (.ife (.or (.not (.val (.isi .tuple (.pk 1)))) (.or (.cmp .ne (.bi .len (.pk 1)) (.int 2)) (.not (.val (.bi .all (.comp (.call i_is_integer (.cons (.var 2) .nil)) (.name 2) (.seq (.var 1)) .yes [2])))))) (.cons (.ret .fa) .nil) .nil) (.cons (.ret (.and (.chain .le .lt (.int 0) (.ix (.pk 1) (.int 0)) (.bi .len (.pk 0))) (.chain .le .lt (.int 0) (.ix (.pk 1) (.int 1)) (.ix (.pk 0) (.ix (.pk 1) (.int 0)))))) .nil)⟩
/-- is_combination_of(sizes, value); slots sizes, value, one -/
def f_is_combination_of (i_is_ascending i_is_pair_of : Nat) : Fn := ⟨2, 3, .cons (.ife (.or (.not (.val (.isi .tuple (.pk 1)))) (.or (.cmp .eq (.pk 1) (.tup .nil)) (.not (.val (.bi .all (.comp (.call i_is_pair_of (.cons (.var 0) (.cons (.var 2) .nil))) (.name 2) (.seq (.var 1)) .yes [2])))))) (.cons (.ret .fa) .nil) .nil) (.cons (.ret (.call i_is_ascending (.cons (.comp (.ix (.pk 2) (.int 0)) (.name 2) (.seq (.var 1)) .yes [2]) .nil))) .nil)⟩
/-- is_model(value); slots value, sizes, forbidden, size, one -/
def f_is_model (i_is_ascending i_is_combination_of i_is_integer : Nat) : Fn := ⟨1, 5, .cons (.ife (.or (.not (.val (.isi .tuple (.pk 0)))) (.or (.cmp .ne (.bi .len (.pk 0)) (.int 2)) (.not (.val (.isi .tuple (.ix (.pk 0) (.int 0))))))) (.cons (.ret .fa) .nil) .nil) (.cons (.set (.tup (.cons (.name 1) (.cons (.name 2) .nil))) (.var 0)) (.cons (.ife (.or (.not (.chain .le .le (.int 2) (.bi .len (.pk 1)) (.int 5))) (.not (.val (.bi .all (.comp (.and (.call i_is_integer (.cons (.var 3) .nil)) (.chain .le .le (.int 2) (.pk 3) (.int 4))) (.name 3) (.seq (.var 1)) .yes [3]))))) (.cons (.ret .fa) .nil) .nil) (.cons (.ife (.or (.not (.val (.isi .tuple (.pk 2)))) (.cmp .gt (.bi .len (.pk 2)) (.gint "RULES" 8))) (.cons (.ret .fa) .nil) .nil) (.cons (.ret (.and (.bi .all (.comp (.call i_is_combination_of (.cons (.var 1) (.cons (.var 4) .nil))) (.name 4) (.seq (.var 2)) .yes [4])) (.call i_is_ascending (.cons (.var 2) .nil)))) .nil))))⟩
/-- _law_bounds(); slots rules, good, bad, at, one -/
def f_law_bounds (i__law_is i_is_model : Nat) : Fn := ⟨0, 5, .cons (.set (.name 0) (.bi .tuple (.comp (.tup (.cons (.tup (.cons (.int 0) (.cons (.op .fdiv (.pk 3) (.int 4)) .nil))) (.cons (.tup (.cons (.int 1) (.cons (.op .mod (.pk 3) (.int 4)) .nil))) .nil))) (.name 3) (.range1 (.int 9)) .yes [3]))) (.cons (.set (.name 1) (.lst (.cons (.tup (.cons (.tup (.cons (.int 2) (.cons (.int 2) .nil))) (.cons (.tup .nil) .nil))) (.cons (.tup (.cons (.tup (.cons (.int 4) (.cons (.int 4) (.cons (.int 4) (.cons (.int 4) (.cons (.int 4) .nil)))))) (.cons (.tup .nil) .nil))) (.cons (.tup (.cons (.tup (.cons (.int 4) (.cons (.int 4) .nil))) (.cons (.sl (.pk 0) .no (.so (.int 8))) .nil))) (.cons (.tup (.cons (.tup (.cons (.int 2) (.cons (.int 2) .nil))) (.cons (.tup (.cons (.tup (.cons (.tup (.cons (.int 0) (.cons (.int 0) .nil))) .nil)) .nil)) .nil))) .nil)))))) (.cons (.set (.name 2) (.lst (.cons (.tup (.cons (.tup (.cons (.int 2) .nil)) (.cons (.tup .nil) .nil))) (.cons (.tup (.cons (.op .mul (.tup (.cons (.int 2) .nil)) (.int 6)) (.cons (.tup .nil) .nil))) (.cons (.tup (.cons (.tup (.cons (.int 2) (.cons (.int 1) .nil))) (.cons (.tup .nil) .nil))) (.cons (.tup (.cons (.tup (.cons (.int 2) (.cons (.int 5) .nil))) (.cons (.tup .nil) .nil))) (.cons (.tup (.cons (.tup (.cons (.int 4) (.cons (.int 4) .nil))) (.cons (.var 0) .nil))) (.cons (.tup (.cons (.tup (.cons (.int 2) (.cons .tr .nil))) (.cons (.tup .nil) .nil))) (.cons (.tup (.cons (.tup (.cons (.int 2) (.cons (.int 2) .nil))) (.cons (.tup (.cons (.tup .nil) .nil)) .nil))) .nil))))))))) (.cons (.set (.name 2) (.op .add (.pk 2) (.lst (.cons (.tup (.cons (.tup (.cons (.int 2) (.cons (.int 2) .nil))) (.cons (.tup (.cons (.tup (.cons (.tup (.cons (.int 0) (.cons (.int 0) .nil))) (.cons (.tup (.cons (.int 0) (.cons (.int 1) .nil))) .nil))) .nil)) .nil))) (.cons (.tup (.cons (.tup (.cons (.int 2) (.cons (.int 2) .nil))) (.cons (.tup (.cons (.tup (.cons (.tup (.cons (.int 1) (.cons (.int 0) .nil))) (.cons (.tup (.cons (.int 0) (.cons (.int 0) .nil))) .nil))) .nil)) .nil))) (.cons (.tup (.cons (.tup (.cons (.int 2) (.cons (.int 2) .nil))) (.cons (.tup (.cons (.tup (.cons (.tup (.cons (.int 0) (.cons (.int 0) .nil))) .nil)) (.cons (.tup (.cons (.tup (.cons (.int 0) (.cons (.int 0) .nil))) .nil)) .nil))) .nil))) (.cons .none .nil))))))) (.cons (.set (.name 2) (.op .add (.pk 2) (.lst (.cons (.tup (.cons (.tup (.cons (.int 2) (.cons (.int 2) .nil))) (.cons (.tup (.cons (.tup (.cons (.tup (.cons (.int 1) (.cons (.int 0) .nil))) .nil)) (.cons (.tup (.cons (.tup (.cons (.int 0) (.cons (.int 0) .nil))) .nil)) .nil))) .nil))) (.cons (.tup (.cons (.tup (.cons (.int 2) (.cons (.int 2) .nil))) (.cons (.tup (.cons (.tup (.cons (.tup (.cons (.int 2) (.cons (.int 0) .nil))) .nil)) .nil)) .nil))) (.cons (.tup (.cons (.tup (.cons (.int 2) (.cons (.int 2) .nil))) (.cons (.tup (.cons (.tup (.cons (.tup (.cons (.int 0) (.cons (.int 2) .nil))) .nil)) .nil)) .nil))) (.cons (.tup (.cons (.tup (.cons (.int 2) (.cons (.int 2) .nil))) (.cons (.tup (.cons (.tup (.cons (.int 0) (.cons (.int 0) .nil))) .nil)) .nil))) .nil))))))) (.cons (.ife (.cmp .ne (.comp (.var 4) (.name 4) (.seq (.var 1)) (.one (.not (.val (.call i__law_is (.cons (.call i_is_model (.cons (.var 4) .nil)) (.cons .tr .nil)))))) [4]) (.lst .nil)) (.cons (.ret .fa) .nil) .nil) (.cons (.ret (.op .eq (.comp (.var 4) (.name 4) (.seq (.var 2)) (.one (.not (.val (.call i__law_is (.cons (.call i_is_model (.cons (.var 4) .nil)) (.cons .fa .nil)))))) [4]) (.lst .nil))) .nil))))))⟩
/-- _law_combination(script, town, sizes, most); slots script, town, sizes, most, found, k, parameter -/
def f_law_combination (i__law_draw : Nat) : Fn := ⟨4, 7, .cons (.setM 4 .dnew) (.cons (.for_ (.name 5) (.range1 (.op .add (.int 1) (.call i__law_draw (.cons (.var 0) (.cons (.var 1) (.cons (.var 3) .nil)))))) (.cons (.set (.name 6) (.call i__law_draw (.cons (.var 0) (.cons (.var 1) (.cons (.bi .len (.pk 2)) .nil))))) (.cons (.dput 4 (.var 6) (.call i__law_draw (.cons (.var 0) (.cons (.var 1) (.cons (.ix (.pk 2) (.pk 6)) .nil))))) .nil))) (.cons (.ret (.bi .tuple (.bi .sitems (.pk 4)))) .nil))⟩
/-- _law_model(script, town, many, values, rules); slots script, town, many, values, rules, sizes, some, k, one -/
def f_law_model (i__law_combination i__law_draw : Nat) : Fn := ⟨5, 9, .cons (.set (.name 5) (.bi .tuple (.comp (.op .add (.int 2) (.call i__law_draw (.cons (.var 0) (.cons (.var 1) (.cons (.op .sub (.pk 3) (.int 1)) .nil))))) (.name 7) (.range1 (.op .add (.int 2) (.call i__law_draw (.cons (.var 0) (.cons (.var 1) (.cons (.op .sub (.pk 2) (.int 1)) .nil)))))) .yes [7]))) (.cons (.set (.name 6) (.comp (.call i__law_combination (.cons (.var 0) (.cons (.var 1) (.cons (.var 5) (.cons (.int 3) .nil))))) (.name 7) (.range1 (.call i__law_draw (.cons (.var 0) (.cons (.var 1) (.cons (.op .add (.pk 4) (.int 1)) .nil))))) .yes [7])) (.cons (.ret (.tup (.cons (.var 5) (.cons (.bi .tuple (.bi .sset (.comp (.var 8) (.name 8) (.seq (.var 6)) (.one (.or (.cmp .gt (.bi .len (.pk 8)) (.int 1)) (.cmp .eq (.call i__law_draw (.cons (.var 0) (.cons (.var 1) (.cons (.int 3) .nil)))) (.int 0)))) [8]))) .nil)))) .nil))⟩
/-- _law_has(test, combination); slots test, combination, parameter, value_here -/
def f_law_has : Fn := ⟨2, 4, .cons (.ret (.op .eq (.comp (.int 1) (.tup (.cons (.name 2) (.cons (.name 3) .nil))) (.seq (.var 1)) (.one (.cmp .ne (.ix (.pk 0) (.pk 2)) (.pk 3))) [2, 3]) (.lst .nil))) .nil⟩
/-- _law_tests(model); slots model, rows, size, longer, value_here, row, rule -/
def f_law_tests (i__law_has : Nat) : Fn := ⟨1, 7, .cons (.set (.name 1) (.lst (.cons (.tup .nil) .nil))) (.cons (.for_ (.name 2) (.seq (.ix (.pk 0) (.int 0))) (.cons (.setM 3 (.lst .nil)) (.cons (.for_ (.name 4) (.range1 (.pk 2)) (.cons (.ext 3 (.comp (.op .add (.pk 5) (.tup (.cons (.var 4) .nil))) (.name 5) (.seq (.var 1)) .yes [5])) .nil)) (.frz 3 (.cons (.set (.name 1) (.var 3)) .nil))))) (.cons (.ret (.bi .sorted (.comp (.var 5) (.name 5) (.seq (.var 1)) (.one (.cmp .eq (.comp (.int 1) (.name 6) (.seq (.ix (.pk 0) (.int 1))) (.one (.val (.call i__law_has (.cons (.var 5) (.cons (.var 6) .nil))))) [6]) (.lst .nil))) [5]))) .nil))⟩
/-- _law_spoilt(value_here); slots value_here, found, place, one, odd -/
def f_law_spoilt (i__law_spoilt : Nat) : Fn := ⟨1, 5, .cons (.setM 1 (.lst .nil)) (.cons (.ife (.not (.val (.isi .tuple (.pk 0)))) (.frz 1 (.cons (.ret (.var 1)) .nil)) .nil) (.cons (.for_ (.tup (.cons (.name 2) (.cons (.name 3) .nil))) (.enum (.var 0)) (.cons (.for_ (.name 4) (.seq (.op .add (.lst (.cons .none (.cons (.tup (.cons (.str "x") .nil)) (.cons (.neg (.int 1)) (.cons (.int 9) (.cons (.lst .nil) .nil)))))) (.call i__law_spoilt (.cons (.var 3) .nil)))) (.cons (.app 1 (.op .add (.op .add (.sl (.pk 0) .no (.so (.pk 2))) (.tup (.cons (.var 4) .nil))) (.sl (.pk 0) (.so (.op .add (.pk 2) (.int 1))) .no))) .nil)) .nil)) (.cons (.ret (.op .add (.pk 1) (.lst (.cons (.bi .list (.pk 0)) (.cons (.op .add (.pk 0) (.tup (.cons .none .nil))) .nil))))) .nil)))⟩
/-- check_model(model); slots model -/
def f_check_model (i_is_model x_InvalidModel : Nat) : Fn := ⟨1, 1, .cons (.ife (.not (.val (.call i_is_model (.cons (.var 0) .nil)))) (.cons (.raise x_InvalidModel) .nil) .nil) .nil⟩
/-- is_combination(model, value); slots model, value -/
def f_is_combination (i_check_model i_is_combination_of : Nat) : Fn := ⟨2, 2, .cons (.expr (.call i_check_model (.cons (.var 0) .nil))) (.cons (.ret (.call i_is_combination_of (.cons (.ix (.pk 0) (.int 0)) (.cons (.var 1) .nil)))) .nil)⟩
/-- has_all(test, combination); slots test, combination, parameter, value -/
def f_has_all : Fn := ⟨2, 4, .cons (.ret (.bi .all (.comp (.op .eq (.ix (.pk 0) (.pk 2)) (.pk 3)) (.tup (.cons (.name 2) (.cons (.name 3) .nil))) (.seq (.var 1)) .yes [2, 3]))) .nil⟩
/-- is_test_of(model, value); slots model, value, sizes, forbidden, one, size, rule -/
def f_is_test_of (i_has_all i_is_integer : Nat) : Fn := ⟨2, 7, .cons (.set (.tup (.cons (.name 2) (.cons (.name 3) .nil))) (.var 0)) (.cons (.ife (.or (.not (.val (.isi .tuple (.pk 1)))) (.cmp .ne (.bi .len (.pk 1)) (.bi .len (.pk 2)))) (.cons (.ret .fa) .nil) .nil) (.cons (.ife (.not (.val (.bi .all (.comp (.and (.call i_is_integer (.cons (.var 4) .nil)) (.chain .le .lt (.int 0) (.pk 4) (.pk 5))) (.tup (.cons (.name 4) (.cons (.name 5) .nil))) (.zip (.var 1) (.var 2)) .yes [4, 5])))) (.cons (.ret .fa) .nil) .nil) (.cons (.ret (.not (.bi .any (.comp (.call i_has_all (.cons (.var 1) (.cons (.var 6) .nil))) (.name 6) (.seq (.var 3)) .yes [6])))) .nil)))⟩
/-- is_valid_test(model, value); slots model, value -/
def f_is_valid_test (i_check_model i_is_test_of : Nat) : Fn := ⟨2, 2, .cons (.expr (.call i_check_model (.cons (.var 0) .nil))) (.cons (.ret (.call i_is_test_of (.cons (.var 0) (.cons (.var 1) .nil)))) .nil)⟩
/-- law(script); slots script, town, k, model, combination, odd, tests, test, size, one -/
def f_law (i__law_begun i__law_bounds i__law_combination i__law_draw i__law_is i__law_model i__law_spoilt i__law_tests i_is_combination i_is_model i_is_valid_test : Nat) : Fn := ⟨1, 10, .cons (.set (.name 1) (.call i__law_begun .nil)) (.cons (.for_ (.name 2) (.range1 (.int 3)) (.cons (.set (.name 3) (.call i__law_model (.cons (.var 0) (.cons (.var 1) (.cons (.int 4) (.cons (.int 4) (.cons (.int 3) .nil))))))) (.cons (.ife (.not (.val (.call i__law_is (.cons (.call i_is_model (.cons (.var 3) .nil)) (.cons .tr .nil))))) (.cons (.ret .fa) .nil) .nil) (.cons (.ife (.cmp .ne (.comp (.var 5) (.name 5) (.seq (.call i__law_spoilt (.cons (.var 3) .nil))) (.one (.not (.val (.call i__law_is (.cons (.call i_is_model (.cons (.var 5) .nil)) (.cons .fa .nil)))))) [5]) (.lst .nil)) (.cons (.ret .fa) .nil) .nil) (.cons (.set (.name 4) (.call i__law_combination (.cons (.var 0) (.cons (.var 1) (.cons (.ix (.pk 3) (.int 0)) (.cons (.int 4) .nil)))))) (.cons (.ife (.not (.val (.call i__law_is (.cons (.call i_is_combination (appEs (.cons (.var 3) .nil) (.cons (.var 4) .nil))) (.cons .tr .nil))))) (.cons (.ret .fa) .nil) .nil) (.cons (.for_ (.name 5) (.seq (.op .add (.call i__law_spoilt (.cons (.var 4) .nil)) (.lst (.cons (.tup .nil) (.cons (.op .mul (.pk 4) (.int 2)) .nil))))) (.cons (.ife (.not (.val (.call i__law_is (.cons (.call i_is_combination (.cons (.var 3) (.cons (.var 5) .nil))) (.cons .fa .nil))))) (.cons (.ret .fa) .nil) .nil) .nil)) (.cons (.set (.name 6) (.call i__law_tests (.cons (.var 3) .nil))) (.cons (.set (.name 7) (.bi .tuple (.comp (.call i__law_draw (.cons (.var 0) (.cons (.var 1) (.cons (.var 8) .nil)))) (.name 8) (.seq (.ix (.pk 3) (.int 0))) .yes [8]))) (.cons (.ife (.not (.val (.call i__law_is (.cons (.call i_is_valid_test (appEs (.cons (.var 3) .nil) (.cons (.var 7) .nil))) (.cons (.op .isin (.pk 7) (.pk 6)) .nil))))) (.cons (.ret .fa) .nil) .nil) (.cons (.ife (.cmp .ne (.comp (.var 5) (.name 5) (.seq (.op .add (.call i__law_spoilt (.cons (.var 7) .nil)) (.lst (.cons (.sl (.pk 7) (.so (.int 1)) .no) .nil)))) (.one (.not (.val (.call i__law_is (.cons (.call i_is_valid_test (.cons (.var 3) (.cons (.var 5) .nil))) (.cons .fa .nil)))))) [5]) (.lst .nil)) (.cons (.ret .fa) .nil) .nil) (.cons (.ife (.cmp .ne (.comp (.var 9) (.name 9) (.seq (.sl (.pk 6) .no (.so (.int 6)))) (.one (.not (.val (.call i__law_is (.cons (.call i_is_valid_test (.cons (.var 3) (.cons (.var 9) .nil))) (.cons .tr .nil)))))) [9]) (.lst .nil)) (.cons (.ret .fa) .nil) .nil) .nil)))))))))))) (.cons (.ret (.call i__law_bounds .nil)) .nil))⟩
/-- all_tests(model); slots model, rows, size, longer, row, value, rule -/
def f_all_tests (i_has_all : Nat) : Fn := ⟨1, 7, .cons (.set (.name 1) (.lst (.cons (.tup .nil) .nil))) (.cons (.for_ (.name 2) (.seq (.ix (.pk 0) (.int 0))) (.cons (.setM 3 (.lst .nil)) (.cons (.for_ (.name 4) (.seq (.var 1)) (.cons (.ext 3 (.comp (.op .add (.pk 4) (.tup (.cons (.var 5) .nil))) (.name 5) (.range1 (.pk 2)) .yes [5])) .nil)) (.frz 3 (.cons (.set (.name 1) (.var 3)) .nil))))) (.cons (.ret (.comp (.var 4) (.name 4) (.seq (.var 1)) (.one (.not (.val (.bi .any (.comp (.call i_has_all (.cons (.var 4) (.cons (.var 6) .nil))) (.name 6) (.seq (.ix (.pk 0) (.int 1))) .yes [6]))))) [4])) .nil))⟩
/-- valid_tests(model); slots model -/
def f_valid_tests (i_all_tests i_check_model : Nat) : Fn := ⟨1, 1, .cons (.expr (.call i_check_model (.cons (.var 0) .nil))) (.cons (.ret (.bi .tuple (.call i_all_tests (.cons (.var 0) .nil)))) .nil)⟩
/-- check_test(model, test); slots model, test -/
def f_check_test (i_is_test_of x_InvalidTest : Nat) : Fn := ⟨2, 2, .cons (.ife (.not (.val (.call i_is_test_of (.cons (.var 0) (.cons (.var 1) .nil))))) (.cons (.raise x_InvalidTest) .nil) .nil) .nil⟩
/-- check_combination(model, combination); slots model, combination -/
def f_check_combination (i_is_combination_of x_InvalidCombination : Nat) : Fn := ⟨2, 2, .cons (.ife (.not (.val (.call i_is_combination_of (.cons (.ix (.pk 0) (.int 0)) (.cons (.var 1) .nil))))) (.cons (.raise x_InvalidCombination) .nil) .nil) .nil⟩
/-- contains(model, test, combination); slots model, test, combination -/
def f_contains (i_check_combination i_check_model i_check_test i_has_all : Nat) : Fn := ⟨3, 3, .cons (.expr (.call i_check_model (.cons (.var 0) .nil))) (.cons (.expr (.call i_check_test (.cons (.var 0) (.cons (.var 1) .nil)))) (.cons (.expr (.call i_check_combination (.cons (.var 0) (.cons (.var 2) .nil)))) (.cons (.ret (.call i_has_all (.cons (.var 1) (.cons (.var 2) .nil)))) .nil)))⟩
/-- law(script); slots script, town, k, model_here, tests, j, combination_here, test_here, due, odd, results -/
def f_law_k02 (i__law_begun i__law_combination i__law_draw i__law_has i__law_is i__law_model i__law_tests i_contains i_is_combination i_is_valid_test i_valid_tests : Nat) : Fn := ⟨1, 11, .cons (.set (.name 1) (.call i__law_begun .nil)) (.cons (.for_ (.name 2) (.range1 (.int 4)) (.cons (.set (.name 3) (.call i__law_model (.cons (.var 0) (.cons (.var 1) (.cons (.int 5) (.cons (.int 3) (.cons (.int 4) .nil))))))) (.cons (.set (.name 4) (.call i__law_tests (.cons (.var 3) .nil))) (.cons (.ife (.cmp .ne (.call i_valid_tests (.cons (.var 3) .nil)) (.bi .tuple (.pk 4))) (.cons (.ret .fa) .nil) .nil) (.cons (.for_ (.name 5) (.range1 (.int 4)) (.cons (.set (.name 6) (.call i__law_combination (.cons (.var 0) (.cons (.var 1) (.cons (.ix (.pk 3) (.int 0)) (.cons (.int 3) .nil)))))) (.cons (.ife (.cmp .ne (.pk 4) (.lst .nil)) (.cons (.set (.name 7) (.ix (.pk 4) (.call i__law_draw (.cons (.var 0) (.cons (.var 1) (.cons (.bi .len (.pk 4)) .nil)))))) (.cons (.set (.name 8) (.call i__law_has (.cons (.var 7) (.cons (.var 6) .nil)))) (.cons (.ife (.not (.val (.call i__law_is (.cons (.call i_contains (appEs (.cons (.var 3) .nil) (.cons (.var 7) (.cons (.var 6) .nil)))) (.cons (.var 8) .nil))))) (.cons (.ret .fa) .nil) .nil) (.cons (.ife (.cmp .ne (.lam resL (.call i_contains (.cons (.var 3) (.cons (.var 7) (.cons (.tup (.cons (.var 6) .nil)) .nil))))) (.tup (.cons (.str "combination") .nil))) (.cons (.ret .fa) .nil) .nil) .nil)))) .nil) .nil))) (.cons (.for_ (.name 9) (.seq (.tup (.cons .none (.cons (.tup .nil) (.cons (.tup (.cons (.ix (.pk 3) (.int 0)) .nil)) (.cons (.bi .list (.pk 3)) (.cons (.tup (.cons (.ix (.pk 3) (.int 0)) (.cons .none .nil))) (.cons (.tup (.cons (.tup (.cons (.int 2) (.cons (.int 2) (.cons (.int 2) (.cons (.int 2) (.cons (.int 2) (.cons (.int 2) .nil))))))) (.cons (.tup .nil) .nil))) .nil)))))))) (.cons (.setM 10 (.lst (.cons (.lam resL (.call i_valid_tests (.cons (.var 9) .nil))) .nil))) (.cons (.app 10 (.lam resL (.call i_contains (.cons (.var 9) (.cons .none (.cons .none .nil)))))) (.cons (.app 10 (.lam resL (.call i_is_combination (.cons (.var 9) (.cons .none .nil))))) (.cons (.ife (.cmp .ne (.op .add (.pk 10) (.lst (.cons (.lam resL (.call i_is_valid_test (.cons (.var 9) (.cons .none .nil)))) .nil))) (.op .mul (.lst (.cons (.tup (.cons (.str "model") .nil)) .nil)) (.int 4))) (.cons (.ret .fa) .nil) .nil) .nil))))) (.cons (.for_ (.name 9) (.seq (.tup (.cons .none (.cons (.tup .nil) (.cons (.op .mul (.tup (.cons (.int 9) .nil)) (.bi .len (.ix (.pk 3) (.int 0)))) (.cons (.op .mul (.tup (.cons .tr .nil)) (.bi .len (.ix (.pk 3) (.int 0)))) .nil)))))) (.cons (.ife (.cmp .ne (.lam resL (.call i_contains (.cons (.var 3) (.cons (.var 9) (.cons .none .nil))))) (.tup (.cons (.str "test") .nil))) (.cons (.ret .fa) .nil) .nil) .nil)) .nil))))))) (.cons (.ret .tr) .nil))⟩
/-- is_part(one, other); slots one, other, pair -/
def f_is_part : Fn := ⟨2, 3, .cons (.ret (.bi .all (.comp (.op .isin (.pk 2) (.pk 1)) (.name 2) (.seq (.var 0)) .yes [2]))) .nil⟩
/-- with_pair(combination, parameter, value); slots combination, parameter, value -/
def f_with_pair : Fn := ⟨3, 3, .cons (.ret (.bi .tuple (.bi .sorted (.op .add (.pk 0) (.tup (.cons (.tup (.cons (.var 1) (.cons (.var 2) .nil))) .nil)))))) .nil⟩
/-- build(model, combination); slots model, combination, sizes, forbidden, index, rule, known, parameter, branches, pair, one, value -/
def f_build (i_build i_is_part i_with_pair : Nat) : Fn := ⟨2, 12, .cons (.set (.tup (.cons (.name 2) (.cons (.name 3) .nil))) (.var 0)) (.cons (.for_ (.tup (.cons (.name 4) (.cons (.name 5) .nil))) (.enum (.var 3)) (.cons (.ife (.val (.call i_is_part (.cons (.var 5) (.cons (.var 1) .nil)))) (.cons (.ret (.tup (.cons (.str "forbidden") (.cons (.var 4) .nil)))) .nil) .nil) .nil)) (.cons (.set (.name 6) (.comp (.ix (.pk 9) (.int 0)) (.name 9) (.seq (.var 1)) .yes [9])) (.cons (.set (.name 7) (.ix (.comp (.var 10) (.name 10) (.range1 (.bi .len (.pk 2))) (.one (.cmp .notin (.pk 10) (.pk 6))) [10]) (.int 0))) (.cons (.set (.name 8) (.comp (.call i_build (.cons (.var 0) (.cons (.call i_with_pair (.cons (.var 1) (.cons (.var 7) (.cons (.var 11) .nil)))) .nil))) (.name 11) (.range1 (.ix (.pk 2) (.pk 7))) .yes [11])) (.cons (.ret (.tup (.cons (.str "split") (.cons (.var 7) (.cons (.bi .tuple (.pk 8)) .nil))))) .nil)))))⟩
/-- first_completion(model, combination); slots model, combination, test -/
def f_first_completion (i_all_tests i_has_all : Nat) : Fn := ⟨2, 3, .cons (.for_ (.name 2) (.seq (.call i_all_tests (.cons (.var 0) .nil))) (.cons (.ife (.val (.call i_has_all (.cons (.var 2) (.cons (.var 1) .nil)))) (.cons (.ret (.var 2)) .nil) .nil) .nil)) (.cons (.ret .none) .nil)⟩
/-- refutation(model, combination); slots model, combination -/
def f_refutation (i_build i_check_combination i_check_model i_first_completion : Nat) : Fn := ⟨2, 2, .cons (.expr (.call i_check_model (.cons (.var 0) .nil))) (.cons (.expr (.call i_check_combination (.cons (.var 0) (.cons (.var 1) .nil)))) (.cons (.ret (.ite (.cmp .notN (.call i_first_completion (.cons (.var 0) (.cons (.var 1) .nil))) .none) .none (.call i_build (.cons (.var 0) (.cons (.var 1) .nil))))) .nil))⟩
/-- completion(model, combination); slots model, combination -/
def f_completion (i_check_combination i_check_model i_first_completion : Nat) : Fn := ⟨2, 2, .cons (.expr (.call i_check_model (.cons (.var 0) .nil))) (.cons (.expr (.call i_check_combination (.cons (.var 0) (.cons (.var 1) .nil)))) (.cons (.ret (.call i_first_completion (.cons (.var 0) (.cons (.var 1) .nil)))) .nil))⟩
/-- is_possible(model, combination); slots model, combination -/
def f_is_possible (i_check_combination i_check_model i_first_completion : Nat) : Fn := ⟨2, 2, .cons (.expr (.call i_check_model (.cons (.var 0) .nil))) (.cons (.expr (.call i_check_combination (.cons (.var 0) (.cons (.var 1) .nil)))) (.cons (.ret (.op .notN (.call i_first_completion (.cons (.var 0) (.cons (.var 1) .nil))) .none)) .nil))⟩
/-- refutes(model, combination, value); slots model, combination, value, sizes, forbidden, kind, parameter, branches, pair, at, one -/
def f_refutes (i_is_integer i_is_part i_refutes i_with_pair : Nat) : Fn := ⟨3, 11, .cons (.set (.tup (.cons (.name 3) (.cons (.name 4) .nil))) (.var 0)) (.cons (.ife (.or (.not (.val (.isi .tuple (.pk 2)))) (.or (.cmp .notin (.bi .len (.pk 2)) (.tup (.cons (.int 2) (.cons (.int 3) .nil)))) (.not (.val (.call i_is_integer (.cons (.ix (.pk 2) (.int 1)) .nil)))))) (.cons (.ret .fa) .nil) .nil) (.cons (.ife (.cmp .eq (.bi .len (.pk 2)) (.int 2)) (.cons (.ife (.or (.cmp .ne (.ix (.pk 2) (.int 0)) (.str "forbidden")) (.not (.chain .le .lt (.int 0) (.ix (.pk 2) (.int 1)) (.bi .len (.pk 4))))) (.cons (.ret .fa) .nil) .nil) (.cons (.ret (.call i_is_part (.cons (.ix (.pk 4) (.ix (.pk 2) (.int 1))) (.cons (.var 1) .nil)))) .nil)) .nil) (.cons (.set (.tup (.cons (.name 5) (.cons (.name 6) (.cons (.name 7) .nil)))) (.var 2)) (.cons (.ife (.or (.cmp .ne (.pk 5) (.str "split")) (.or (.not (.chain .le .lt (.int 0) (.pk 6) (.bi .len (.pk 3)))) (.cmp .isin (.pk 6) (.comp (.ix (.pk 8) (.int 0)) (.name 8) (.seq (.var 1)) .yes [8])))) (.cons (.ret .fa) .nil) .nil) (.cons (.ife (.or (.not (.val (.isi .tuple (.pk 7)))) (.cmp .ne (.bi .len (.pk 7)) (.ix (.pk 3) (.pk 6)))) (.cons (.ret .fa) .nil) .nil) (.cons (.ret (.bi .all (.comp (.call i_refutes (.cons (.var 0) (.cons (.call i_with_pair (.cons (.var 1) (.cons (.var 6) (.cons (.var 9) .nil)))) (.cons (.var 10) .nil)))) (.tup (.cons (.name 9) (.cons (.name 10) .nil))) (.enum (.var 7)) .yes [9, 10]))) .nil))))))⟩
/-- is_refutation(model, combination, value); slots model, combination, value -/
def f_is_refutation (i_check_combination i_check_model i_refutes : Nat) : Fn := ⟨3, 3, .cons (.expr (.call i_check_model (.cons (.var 0) .nil))) (.cons (.expr (.call i_check_combination (.cons (.var 0) (.cons (.var 1) .nil)))) (.cons (.ret (.call i_refutes (.cons (.var 0) (.cons (.var 1) (.cons (.var 2) .nil))))) .nil))⟩
/-- _law_combinations(sizes); slots sizes, rows, parameter, size, longer, value, row -/
def f_law_combinations : Fn := ⟨1, 7, .cons (.set (.name 1) (.lst (.cons (.tup .nil) .nil))) (.cons (.for_ (.tup (.cons (.name 2) (.cons (.name 3) .nil))) (.enum (.var 0)) (.cons (.setM 4 (.bi .list (.pk 1))) (.cons (.for_ (.name 5) (.range1 (.pk 3)) (.cons (.ext 4 (.comp (.op .add (.pk 6) (.tup (.cons (.tup (.cons (.var 2) (.cons (.var 5) .nil))) .nil))) (.name 6) (.seq (.var 1)) .yes [6])) .nil)) (.frz 4 (.cons (.set (.name 1) (.var 4)) .nil))))) (.cons (.ret (.sl (.pk 1) (.so (.int 1)) .no)) .nil))⟩
/-- projection(test, parameters); slots test, parameters, parameter -/
def f_projection : Fn := ⟨2, 3, .cons (.ret (.bi .tuple (.comp (.tup (.cons (.var 2) (.cons (.ix (.pk 0) (.pk 2)) .nil))) (.name 2) (.seq (.var 1)) .yes [2]))) .nil⟩
/-- subsets(many, size); slots many, size, rows, turn, longer, row, start, one -/
def f_subsets : Fn := ⟨2, 8, .cons (.set (.name 2) (.lst (.cons (.tup .nil) .nil))) (.cons (.for_ (.name 3) (.range1 (.pk 1)) (.cons (.setM 4 (.lst .nil)) (.cons (.for_ (.name 5) (.seq (.var 2)) (.cons (.set (.name 6) (.ite (.val (.pk 5)) (.op .add (.ix (.pk 5) (.neg (.int 1))) (.int 1)) (.int 0))) (.cons (.ext 4 (.comp (.op .add (.pk 5) (.tup (.cons (.var 7) .nil))) (.name 7) (.range2 (.pk 6) (.pk 0)) .yes [7])) .nil))) (.frz 4 (.cons (.set (.name 2) (.var 4)) .nil))))) (.cons (.ret (.var 2)) .nil))⟩
/-- projections(test, size); slots test, size, parameters -/
def f_projections (i_projection i_subsets : Nat) : Fn := ⟨2, 3, .cons (.ret (.comp (.call i_projection (.cons (.var 0) (.cons (.var 2) .nil))) (.name 2) (.seq (.call i_subsets (.cons (.bi .len (.pk 0)) (.cons (.var 1) .nil)))) .yes [2])) .nil⟩
/-- possible_of(model, size); slots model, size, found, test, one -/
def f_possible_of (i_all_tests i_projections : Nat) : Fn := ⟨2, 5, .cons (.setM 2 .dnew) (.cons (.for_ (.name 3) (.seq (.call i_all_tests (.cons (.var 0) .nil))) (.cons (.for_ (.name 4) (.seq (.call i_projections (.cons (.var 3) (.cons (.var 1) .nil)))) (.cons (.dput 2 (.var 4) .tr) .nil)) .nil)) (.frz 2 (.cons (.ret (.var 2)) .nil)))⟩
/-- extensions(sizes, combination); slots sizes, combination, start, found, parameter, value -/
def f_extensions : Fn := ⟨2, 6, .cons (.par 2 3 false true (.ite (.val (.pk 1)) (.op .add (.ix (.ix (.pk 1) (.neg (.int 1))) (.int 0)) (.int 1)) (.int 0)) (.lst .nil)) (.cons (.for_ (.name 4) (.range2 (.pk 2) (.bi .len (.pk 0))) (.cons (.ext 3 (.comp (.op .add (.pk 1) (.tup (.cons (.tup (.cons (.var 4) (.cons (.var 5) .nil))) .nil))) (.name 5) (.range1 (.ix (.pk 0) (.pk 4))) .yes [5])) .nil)) (.frz 3 (.cons (.ret (.var 3)) .nil)))⟩
/-- hidden_rules(model); slots model, found, smaller, size, larger, one, other, parts, at, part -/
def f_hidden_rules (i_check_model i_extensions i_possible_of : Nat) : Fn := ⟨1, 10, .cons (.expr (.call i_check_model (.cons (.var 0) .nil))) (.cons (.par 1 2 true false (.lst .nil) (.call i_possible_of (.cons (.var 0) (.cons (.int 0) .nil)))) (.cons (.for_ (.name 3) (.range2 (.int 1) (.op .add (.bi .len (.ix (.pk 0) (.int 0))) (.int 1))) (.cons (.set (.name 4) (.call i_possible_of (.cons (.var 0) (.cons (.var 3) .nil)))) (.cons (.for_ (.name 5) (.seq (.var 2)) (.cons (.for_ (.name 6) (.seq (.call i_extensions (.cons (.ix (.pk 0) (.int 0)) (.cons (.var 5) .nil)))) (.cons (.set (.name 7) (.comp (.op .add (.sl (.pk 6) .no (.so (.pk 8))) (.sl (.pk 6) (.so (.op .add (.pk 8) (.int 1))) .no)) (.name 8) (.range1 (.pk 3)) .yes [8])) (.cons (.ife (.and (.cmp .notin (.pk 6) (.pk 4)) (.val (.bi .all (.comp (.op .isin (.pk 9) (.pk 2)) (.name 9) (.seq (.var 7)) .yes [9])))) (.cons (.app 1 (.var 6)) .nil) .nil) .nil))) .nil)) (.cons (.set (.name 2) (.var 4)) .nil)))) (.cons (.ret (.bi .tuple (.bi .sorted (.pk 1)))) .nil)))⟩
/-- blocking(model, combination); slots model, combination, tests, size, indices, part, index, test -/
def f_blocking (i_all_tests i_check_combination i_check_model i_has_all i_subsets : Nat) : Fn := ⟨2, 8, .cons (.expr (.call i_check_model (.cons (.var 0) .nil))) (.cons (.expr (.call i_check_combination (.cons (.var 0) (.cons (.var 1) .nil)))) (.cons (.set (.name 2) (.call i_all_tests (.cons (.var 0) .nil))) (.cons (.for_ (.name 3) (.range1 (.op .add (.bi .len (.pk 1)) (.int 1))) (.cons (.for_ (.name 4) (.seq (.call i_subsets (.cons (.bi .len (.pk 1)) (.cons (.var 3) .nil)))) (.cons (.set (.name 5) (.bi .tuple (.comp (.ix (.pk 1) (.pk 6)) (.name 6) (.seq (.var 4)) .yes [6]))) (.cons (.ife (.not (.val (.bi .any (.comp (.call i_has_all (.cons (.var 7) (.cons (.var 5) .nil))) (.name 7) (.seq (.var 2)) .yes [7])))) (.cons (.ret (.var 5)) .nil) .nil) .nil))) .nil)) (.cons (.ret .none) .nil))))⟩
/-- _law_open(tests, part); slots tests, part, test -/
def f_law_open (i__law_has : Nat) : Fn := ⟨2, 3, .cons (.ret (.op .ne (.comp (.int 1) (.name 2) (.seq (.var 0)) (.one (.val (.call i__law_has (.cons (.var 2) (.cons (.var 1) .nil))))) [2]) (.lst .nil))) .nil⟩
/-- _law_parts(values); slots values, rows, one, row -/
def f_law_parts : Fn := ⟨1, 4, .cons (.set (.name 1) (.lst (.cons (.tup .nil) .nil))) (.cons (.for_ (.name 2) (.seq (.var 0)) (.cons (.set (.name 1) (.op .add (.pk 1) (.comp (.op .add (.pk 3) (.tup (.cons (.var 2) .nil))) (.name 3) (.seq (.var 1)) .yes [3]))) .nil)) (.cons (.ret (.var 1)) .nil))⟩
/-- law(script); slots script, town, k, model_here, tests, due, one, parts, shut, j, combination_here, bad, first, results, value, at, part -/
def f_law_k05 (i__law_begun i__law_combination i__law_combinations i__law_draw i__law_model i__law_open i__law_parts i__law_tests i_blocking i_hidden_rules : Nat) : Fn := ⟨1, 17, .cons (.set (.name 1) (.call i__law_begun .nil)) (.cons (.for_ (.name 2) (.range1 (.int 4)) (.cons (.set (.name 3) (.call i__law_model (.cons (.var 0) (.cons (.var 1) (.cons (.int 3) (.cons (.int 3) (.cons (.int 6) .nil))))))) (.cons (.ife (.cmp .eq (.call i__law_draw (.cons (.var 0) (.cons (.var 1) (.cons (.int 5) .nil)))) (.int 0)) (.cons (.set (.name 3) (.tup (.cons (.ix (.pk 3) (.int 0)) (.cons (.bi .tuple (.comp (.tup (.cons (.tup (.cons (.int 0) (.cons (.var 14) .nil))) .nil)) (.name 14) (.range1 (.ix (.ix (.pk 3) (.int 0)) (.int 0))) .yes [14])) .nil)))) .nil) .nil) (.cons (.par 4 5 false true (.call i__law_tests (.cons (.var 3) .nil)) (.lst .nil)) (.cons (.for_ (.name 6) (.seq (.call i__law_combinations (.cons (.ix (.pk 3) (.int 0)) .nil))) (.cons (.set (.name 7) (.comp (.op .add (.sl (.pk 6) .no (.so (.pk 15))) (.sl (.pk 6) (.so (.op .add (.pk 15) (.int 1))) .no)) (.name 15) (.range1 (.bi .len (.pk 6))) .yes [15])) (.cons (.set (.name 8) (.comp (.var 16) (.name 16) (.seq (.var 7)) (.one (.not (.val (.call i__law_open (.cons (.var 4) (.cons (.var 16) .nil)))))) [16])) (.cons (.ife (.and (.not (.val (.call i__law_open (.cons (.var 4) (.cons (.var 6) .nil))))) (.cmp .eq (.pk 8) (.lst .nil))) (.cons (.app 5 (.var 6)) .nil) .nil) .nil)))) (.cons (.ife (.cmp .ne (.call i_hidden_rules (.cons (.var 3) .nil)) (.bi .tuple (.bi .sorted (.pk 5)))) (.cons (.ret .fa) .nil) .nil) (.cons (.for_ (.name 9) (.range1 (.int 3)) (.cons (.set (.name 10) (.call i__law_combination (.cons (.var 0) (.cons (.var 1) (.cons (.ix (.pk 3) (.int 0)) (.cons (.int 3) .nil)))))) (.cons (.set (.name 11) (.comp (.var 16) (.name 16) (.seq (.call i__law_parts (.cons (.var 10) .nil))) (.one (.not (.val (.call i__law_open (.cons (.var 4) (.cons (.var 16) .nil)))))) [16])) (.cons (.set (.name 12) (.ite (.cmp .eq (.pk 11) (.lst .nil)) .none (.ix (.bi .min (.comp (.tup (.cons (.bi .len (.pk 16)) (.cons (.var 16) .nil))) (.name 16) (.seq (.var 11)) .yes [16])) (.int 1)))) (.cons (.ife (.cmp .ne (.call i_blocking (appEs (.cons (.var 3) .nil) (.cons (.var 10) .nil))) (.pk 12)) (.cons (.ret .fa) .nil) .nil) .nil))))) (.cons (.set (.name 13) (.lst (.cons (.lam resL (.call i_blocking (.cons (.var 3) (.cons (.tup .nil) .nil)))) .nil))) (.cons (.ife (.cmp .ne (.op .add (.pk 13) (.lst (.cons (.lam resL (.call i_blocking (.cons (.var 3) (.cons (.tup (.cons (.tup (.cons (.int 0) (.cons (.int 9) .nil))) .nil)) .nil)))) .nil))) (.op .mul (.lst (.cons (.tup (.cons (.str "combination") .nil)) .nil)) (.int 2))) (.cons (.ret .fa) .nil) .nil) (.cons (.set (.name 13) (.lst (.cons (.lam resL (.call i_blocking (.cons .none (.cons .none .nil)))) .nil))) (.cons (.ife (.cmp .ne (.op .add (.pk 13) (.lst (.cons (.lam resL (.call i_hidden_rules (.cons (.lst .nil) .nil))) .nil))) (.op .mul (.lst (.cons (.tup (.cons (.str "model") .nil)) .nil)) (.int 2))) (.cons (.ret .fa) .nil) .nil) .nil))))))))))) (.cons (.ret .tr) .nil))⟩
/-- _law_open(model, combination); slots model, combination, found, against, good, parameter, value -/
def f_law_open_k06 (i_completion i_is_refutation i_refutation i_valid_tests : Nat) : Fn := ⟨2, 7, .cons (.par 2 3 false false (.call i_completion (.cons (.var 0) (.cons (.var 1) .nil))) (.call i_refutation (.cons (.var 0) (.cons (.var 1) .nil)))) (.cons (.ife (.cmp .eq (.op .isN (.pk 2) .none) (.op .isN (.pk 3) .none)) (.cons (.ret .none) .nil) .nil) (.cons (.ife (.cmp .notN (.pk 2) .none) (.cons (.set (.name 4) (.op .eq (.comp (.int 1) (.tup (.cons (.name 5) (.cons (.name 6) .nil))) (.seq (.var 1)) (.one (.cmp .ne (.ix (.pk 2) (.pk 5)) (.pk 6))) [5, 6]) (.lst .nil))) (.cons (.ret (.ite (.and (.val (.pk 4)) (.cmp .isin (.pk 2) (.call i_valid_tests (.cons (.var 0) .nil)))) .tr .none)) .nil)) .nil) (.cons (.ret (.ite (.val (.call i_is_refutation (.cons (.var 0) (.cons (.var 1) (.cons (.var 3) .nil))))) .fa .none)) .nil)))⟩
/-- _law_turned(combination, parameter, size); slots combination, parameter, size, one, value -/
def f_law_turned : Fn := ⟨3, 5, .cons (.ret (.bi .tuple (.comp (.tup (.cons (.var 3) (.cons (.ite (.cmp .eq (.pk 3) (.pk 1)) (.op .sub (.op .sub (.pk 2) (.int 1)) (.pk 4)) (.var 4)) .nil))) (.tup (.cons (.name 3) (.cons (.name 4) .nil))) (.seq (.var 0)) .yes [3, 4]))) .nil⟩
/-- law(script); slots script, town, k, model, sizes, rules, rule, parts, combination, inner, due, found, parameter, size, other, at, part, pair -/
def f_law_k06 (i__law_begun i__law_combination i__law_draw i__law_model i__law_open i__law_turned i_blocking i_hidden_rules i_is_model i_is_possible i_valid_tests : Nat) : Fn := ⟨1, 18, .cons (.set (.name 1) (.call i__law_begun .nil)) (.cons (.for_ (.name 2) (.range1 (.int 4)) (.cons (.set (.name 3) (.call i__law_model (.cons (.var 0) (.cons (.var 1) (.cons (.int 3) (.cons (.int 3) (.cons (.int 5) .nil))))))) (.cons (.par 4 5 false false (.ix (.pk 3) (.int 0)) (.call i_hidden_rules (.cons (.var 3) .nil))) (.cons (.for_ (.name 6) (.seq (.var 5)) (.cons (.ife (.or (.cmp .notN (.call i__law_open (.cons (.var 3) (.cons (.var 6) .nil))) .fa) (.cmp .ne (.call i_blocking (.cons (.var 3) (.cons (.var 6) .nil))) (.pk 6))) (.cons (.ret .fa) .nil) .nil) (.cons (.set (.name 7) (.comp (.op .add (.sl (.pk 6) .no (.so (.pk 15))) (.sl (.pk 6) (.so (.op .add (.pk 15) (.int 1))) .no)) (.name 15) (.range1 (.bi .len (.pk 6))) (.one (.cmp .gt (.bi .len (.pk 6)) (.int 1))) [15])) (.cons (.ife (.cmp .ne (.comp (.var 16) (.name 16) (.seq (.var 7)) (.one (.cmp .notN (.call i__law_open (.cons (.var 3) (.cons (.var 16) .nil))) .tr)) [16]) (.lst .nil)) (.cons (.ret .fa) .nil) .nil) .nil)))) (.cons (.ife (.and (.val (.call i_is_model (.cons (.tup (.cons (.var 4) (.cons (.var 5) .nil))) .nil))) (.cmp .ne (.call i_valid_tests (.cons (.tup (.cons (.var 4) (.cons (.var 5) .nil))) .nil)) (.call i_valid_tests (.cons (.var 3) .nil)))) (.cons (.ife (.cmp .ne (.call i_valid_tests (.cons (.var 3) .nil)) (.tup .nil)) (.cons (.ret .fa) .nil) .nil) .nil) .nil) (.cons (.set (.name 8) (.call i__law_combination (.cons (.var 0) (.cons (.var 1) (.cons (.var 4) (.cons (.int 3) .nil)))))) (.cons (.set (.name 9) (.comp (.var 6) (.name 6) (.seq (.var 5)) (.one (.cmp .eq (.comp (.var 17) (.name 17) (.seq (.var 6)) (.one (.cmp .notin (.pk 17) (.pk 8))) [17]) (.lst .nil))) [6])) (.cons (.set (.name 10) (.call i__law_open (.cons (.var 3) (.cons (.var 8) .nil)))) (.cons (.ife (.or (.cmp .isN (.pk 10) .none) (.cmp .ne (.pk 10) (.call i_is_possible (.cons (.var 3) (.cons (.var 8) .nil))))) (.cons (.ret .fa) .nil) .nil) (.cons (.ife (.and (.cmp .ne (.call i_valid_tests (.cons (.var 3) .nil)) (.tup .nil)) (.cmp .ne (.pk 10) (.op .eq (.pk 9) (.lst .nil)))) (.cons (.ret .fa) .nil) .nil) (.cons (.set (.name 11) (.call i_blocking (.cons (.var 3) (.cons (.var 8) .nil)))) (.cons (.ife (.or (.cmp .ne (.op .isN (.pk 11) .none) (.pk 10)) (.and (.cmp .notN (.pk 11) .none) (.and (.cmp .ne (.pk 11) (.tup .nil)) (.cmp .notN (.call i__law_open (.cons (.var 3) (.cons (.var 11) .nil))) .fa)))) (.cons (.ret .fa) .nil) .nil) (.cons (.ife (.and (.cmp .ne (.pk 9) (.lst .nil)) (.and (.cmp .notN (.pk 11) .none) (.cmp .gt (.bi .len (.pk 11)) (.bi .min (.comp (.bi .len (.pk 6)) (.name 6) (.seq (.var 9)) .yes [6]))))) (.cons (.ret .fa) .nil) .nil) (.cons (.set (.name 12) (.call i__law_draw (.cons (.var 0) (.cons (.var 1) (.cons (.bi .len (.pk 4)) .nil))))) (.cons (.set (.name 13) (.ix (.pk 4) (.pk 12))) (.cons (.set (.name 14) (.tup (.cons (.var 4) (.cons (.bi .tuple (.bi .sorted (.comp (.call i__law_turned (.cons (.var 6) (.cons (.var 12) (.cons (.var 13) .nil)))) (.name 6) (.seq (.ix (.pk 3) (.int 1))) .yes [6]))) .nil)))) (.cons (.ife (.cmp .ne (.call i_hidden_rules (.cons (.var 14) .nil)) (.bi .tuple (.bi .sorted (.comp (.call i__law_turned (.cons (.var 6) (.cons (.var 12) (.cons (.var 13) .nil)))) (.name 6) (.seq (.var 5)) .yes [6])))) (.cons (.ret .fa) .nil) .nil) (.cons (.ife (.cmp .ne (.call i_is_possible (.cons (.var 14) (.cons (.call i__law_turned (.cons (.var 8) (.cons (.var 12) (.cons (.var 13) .nil)))) .nil))) (.pk 10)) (.cons (.ret .fa) .nil) .nil) .nil)))))))))))))))))) (.cons (.ret .tr) .nil))⟩
/-- _law_suite(script, town, tests, most); slots script, town, tests, most, found, k -/
def f_law_suite (i__law_draw : Nat) : Fn := ⟨4, 6, .cons (.setM 4 (.lst .nil)) (.cons (.for_ (.name 5) (.range1 (.call i__law_draw (.cons (.var 0) (.cons (.var 1) (.cons (.op .add (.pk 3) (.int 1)) .nil))))) (.cons (.ife (.cmp .ne (.pk 2) (.lst .nil)) (.cons (.app 4 (.ix (.pk 2) (.call i__law_draw (.cons (.var 0) (.cons (.var 1) (.cons (.bi .len (.pk 2)) .nil)))))) .nil) .nil) .nil)) (.cons (.ret (.bi .tuple (.pk 4))) .nil))⟩
/-- _law_targets(tests, strength_here); slots tests, strength_here, found, test, row, at, value -/
def f_law_targets (i__law_parts : Nat) : Fn := ⟨2, 7, .cons (.setM 2 .dnew) (.cons (.for_ (.name 3) (.seq (.var 0)) (.cons (.for_ (.name 4) (.seq (.call i__law_parts (.cons (.bi .tuple (.comp (.tup (.cons (.var 5) (.cons (.var 6) .nil))) (.tup (.cons (.name 5) (.cons (.name 6) .nil))) (.enum (.var 3)) .yes [5, 6])) .nil))) (.cons (.ife (.cmp .eq (.bi .len (.pk 4)) (.pk 1)) (.cons (.dput 2 (.var 4) .tr) .nil) .nil) .nil)) .nil)) (.cons (.ret (.bi .sorted (.pk 2))) .nil))⟩
/-- check_strength(model, strength); slots model, strength -/
def f_check_strength (i_is_integer x_InvalidStrength : Nat) : Fn := ⟨2, 2, .cons (.ife (.or (.not (.val (.call i_is_integer (.cons (.var 1) .nil)))) (.not (.chain .le .le (.int 1) (.pk 1) (.min2 (.int 3) (.bi .len (.ix (.pk 0) (.int 0))))))) (.cons (.raise x_InvalidStrength) .nil) .nil) .nil⟩
/-- all_targets(model, strength); slots model, strength -/
def f_all_targets (i_possible_of : Nat) : Fn := ⟨2, 2, .cons (.ret (.bi .sorted (.call i_possible_of (.cons (.var 0) (.cons (.var 1) .nil))))) .nil⟩
/-- targets(model, strength); slots model, strength -/
def f_targets (i_all_targets i_check_model i_check_strength : Nat) : Fn := ⟨2, 2, .cons (.expr (.call i_check_model (.cons (.var 0) .nil))) (.cons (.expr (.call i_check_strength (.cons (.var 0) (.cons (.var 1) .nil)))) (.cons (.ret (.bi .tuple (.call i_all_targets (.cons (.var 0) (.cons (.var 1) .nil))))) .nil))⟩
/-- check_suite(model, suite); slots model, suite, good, test -/
def f_check_suite (i_is_test_of x_InvalidSuite : Nat) : Fn := ⟨2, 4, .cons (.set (.name 2) (.and (.isi .tuple (.pk 1)) (.op .le (.bi .len (.pk 1)) (.gint "LONGEST" 40)))) (.cons (.ife (.or (.not (.val (.pk 2))) (.not (.val (.bi .all (.comp (.call i_is_test_of (.cons (.var 0) (.cons (.var 3) .nil))) (.name 3) (.seq (.var 1)) .yes [3]))))) (.cons (.raise x_InvalidSuite) .nil) .nil) .nil)⟩
/-- check_all(model, suite, strength); slots model, suite, strength -/
def f_check_all (i_check_model i_check_strength i_check_suite : Nat) : Fn := ⟨3, 3, .cons (.expr (.call i_check_model (.cons (.var 0) .nil))) (.cons (.expr (.call i_check_suite (.cons (.var 0) (.cons (.var 1) .nil)))) (.cons (.expr (.call i_check_strength (.cons (.var 0) (.cons (.var 2) .nil)))) .nil))⟩
/-- counted(suite, strength); slots suite, strength, found, test, one -/
def f_counted (i_projections : Nat) : Fn := ⟨2, 5, .cons (.setM 2 .dnew) (.cons (.for_ (.name 3) (.seq (.var 0)) (.cons (.for_ (.name 4) (.seq (.call i_projections (.cons (.var 3) (.cons (.var 1) .nil)))) (.cons (.dput 2 (.var 4) (.op .add (.get2 (.pk 2) (.pk 4) (.int 0)) (.int 1))) .nil)) .nil)) (.frz 2 (.cons (.ret (.var 2)) .nil)))⟩
/-- not_covered(model, suite, strength); slots model, suite, strength, known, one -/
def f_not_covered (i_all_targets i_counted : Nat) : Fn := ⟨3, 5, .cons (.set (.name 3) (.call i_counted (.cons (.var 1) (.cons (.var 2) .nil)))) (.cons (.ret (.comp (.var 4) (.name 4) (.seq (.call i_all_targets (.cons (.var 0) (.cons (.var 2) .nil)))) (.one (.cmp .notin (.pk 4) (.pk 3))) [4])) .nil)⟩
/-- uncovered(model, suite, strength); slots model, suite, strength -/
def f_uncovered (i_check_all i_not_covered : Nat) : Fn := ⟨3, 3, .cons (.expr (.call i_check_all (.cons (.var 0) (.cons (.var 1) (.cons (.var 2) .nil))))) (.cons (.ret (.bi .tuple (.call i_not_covered (.cons (.var 0) (.cons (.var 1) (.cons (.var 2) .nil)))))) .nil)⟩
/-- covered(model, suite, strength); slots model, suite, strength -/
def f_covered (i_check_all i_counted : Nat) : Fn := ⟨3, 3, .cons (.expr (.call i_check_all (.cons (.var 0) (.cons (.var 1) (.cons (.var 2) .nil))))) (.cons (.ret (.bi .tuple (.bi .sorted (.call i_counted (.cons (.var 1) (.cons (.var 2) .nil)))))) .nil)⟩
/-- cover_counts(model, suite, strength); slots model, suite, strength, known, one -/
def f_cover_counts (i_all_targets i_check_all i_counted : Nat) : Fn := ⟨3, 5, .cons (.expr (.call i_check_all (.cons (.var 0) (.cons (.var 1) (.cons (.var 2) .nil))))) (.cons (.set (.name 3) (.call i_counted (.cons (.var 1) (.cons (.var 2) .nil)))) (.cons (.ret (.bi .tuple (.comp (.get2 (.pk 3) (.pk 4) (.int 0)) (.name 4) (.seq (.call i_all_targets (.cons (.var 0) (.cons (.var 2) .nil)))) .yes [4]))) .nil))⟩
/-- gains(model, suite, strength); slots model, suite, strength, known, found, test, new, one -/
def f_gains (i_check_all i_projections : Nat) : Fn := ⟨3, 8, .cons (.expr (.call i_check_all (.cons (.var 0) (.cons (.var 1) (.cons (.var 2) .nil))))) (.cons (.par 3 4 true true .dnew (.lst .nil)) (.cons (.for_ (.name 5) (.seq (.var 1)) (.cons (.set (.name 6) (.comp (.var 7) (.name 7) (.seq (.call i_projections (.cons (.var 5) (.cons (.var 2) .nil)))) (.one (.cmp .notin (.pk 7) (.pk 3))) [7])) (.cons (.for_ (.name 7) (.seq (.var 6)) (.cons (.dput 3 (.var 7) .tr) .nil)) (.cons (.app 4 (.bi .len (.pk 6))) .nil)))) (.cons (.ret (.bi .tuple (.pk 4))) .nil)))⟩
/-- _law_gains(suite_here, strength_here); slots suite_here, strength_here, found, at, known, one -/
def f_law_gains (i__law_targets : Nat) : Fn := ⟨2, 6, .cons (.setM 2 (.lst .nil)) (.cons (.for_ (.name 3) (.range1 (.bi .len (.pk 0))) (.cons (.set (.name 4) (.call i__law_targets (.cons (.sl (.pk 0) .no (.so (.pk 3))) (.cons (.var 1) .nil)))) (.cons (.app 2 (.bi .len (.comp (.var 5) (.name 5) (.seq (.call i__law_targets (.cons (.sl (.pk 0) (.so (.pk 3)) (.so (.op .add (.pk 3) (.int 1)))) (.cons (.var 1) .nil)))) (.one (.cmp .notin (.pk 5) (.pk 4))) [5]))) .nil))) (.cons (.ret (.bi .tuple (.pk 2))) .nil))⟩
/-- is_covering(model, suite, strength); slots model, suite, strength -/
def f_is_covering (i_check_all i_not_covered : Nat) : Fn := ⟨3, 3, .cons (.expr (.call i_check_all (.cons (.var 0) (.cons (.var 1) (.cons (.var 2) .nil))))) (.cons (.ret (.op .eq (.call i_not_covered (.cons (.var 0) (.cons (.var 1) (.cons (.var 2) .nil)))) (.lst .nil))) .nil)⟩
/-- _law_judged(model, tests, suite_here, strength_here); slots model, tests, suite_here, strength_here, goals, good, left, counts, one, test -/
def f_law_judged (i__law_gains i__law_has i__law_is i__law_targets i_cover_counts i_covered i_gains i_is_covering i_targets i_uncovered : Nat) : Fn := ⟨4, 10, .cons (.par 4 5 false false (.call i__law_targets (.cons (.var 1) (.cons (.var 3) .nil))) (.call i__law_targets (.cons (.var 2) (.cons (.var 3) .nil)))) (.cons (.set (.name 6) (.bi .tuple (.comp (.var 8) (.name 8) (.seq (.var 4)) (.one (.cmp .notin (.pk 8) (.pk 5))) [8]))) (.cons (.ife (.cmp .ne (.call i_targets (appEs (.cons (.var 0) .nil) (.cons (.var 3) .nil))) (.bi .tuple (.pk 4))) (.cons (.ret .fa) .nil) .nil) (.cons (.ife (.cmp .ne (.call i_uncovered (appEs (.cons (.var 0) (.cons (.var 2) .nil)) (.cons (.var 3) .nil))) (.pk 6)) (.cons (.ret .fa) .nil) .nil) (.cons (.ife (.cmp .ne (.call i_covered (appEs (.cons (.var 0) (.cons (.var 2) .nil)) (.cons (.var 3) .nil))) (.bi .tuple (.pk 5))) (.cons (.ret .fa) .nil) .nil) (.cons (.ife (.not (.val (.call i__law_is (.cons (.call i_is_covering (appEs (.cons (.var 0) (.cons (.var 2) .nil)) (.cons (.var 3) .nil))) (.cons (.op .eq (.pk 6) (.tup .nil)) .nil))))) (.cons (.ret .fa) .nil) .nil) (.cons (.set (.name 7) (.bi .tuple (.comp (.bi .len (.comp (.int 1) (.name 9) (.seq (.var 2)) (.one (.val (.call i__law_has (.cons (.var 9) (.cons (.var 8) .nil))))) [9])) (.name 8) (.seq (.var 4)) .yes [8]))) (.cons (.ife (.cmp .ne (.call i_cover_counts (appEs (.cons (.var 0) (.cons (.var 2) .nil)) (.cons (.var 3) .nil))) (.pk 7)) (.cons (.ret .fa) .nil) .nil) (.cons (.ret (.op .eq (.call i_gains (appEs (.cons (.var 0) (.cons (.var 2) .nil)) (.cons (.var 3) .nil))) (.call i__law_gains (.cons (.var 2) (.cons (.var 3) .nil))))) .nil))))))))⟩
/-- reached_strength(model, suite); slots model, suite, good, one -/
def f_reached_strength (i_check_model i_check_suite i_not_covered : Nat) : Fn := ⟨2, 4, .cons (.expr (.call i_check_model (.cons (.var 0) .nil))) (.cons (.expr (.call i_check_suite (.cons (.var 0) (.cons (.var 1) .nil)))) (.cons (.set (.name 2) (.comp (.var 3) (.name 3) (.range2 (.int 1) (.op .add (.min2 (.int 3) (.bi .len (.ix (.pk 0) (.int 0)))) (.int 1))) (.one (.cmp .eq (.call i_not_covered (.cons (.var 0) (.cons (.var 1) (.cons (.var 3) .nil)))) (.lst .nil))) [3])) (.cons (.ret (.ite (.val (.pk 2)) (.bi .max (.pk 2)) (.int 0))) .nil)))⟩
/-- law(script); slots script, town, k, model_here, tests, suite_here, best, strength_here -/
def f_law_k08 (i__law_begun i__law_errors i__law_judged i__law_model i__law_suite i__law_targets i__law_tests i_reached_strength : Nat) : Fn := ⟨1, 8, .cons (.set (.name 1) (.call i__law_begun .nil)) (.cons (.for_ (.name 2) (.range1 (.int 5)) (.cons (.set (.name 3) (.call i__law_model (.cons (.var 0) (.cons (.var 1) (.cons (.int 3) (.cons (.int 3) (.cons (.int 3) .nil))))))) (.cons (.set (.name 4) (.call i__law_tests (.cons (.var 3) .nil))) (.cons (.set (.name 5) (.call i__law_suite (.cons (.var 0) (.cons (.var 1) (.cons (.var 4) (.cons (.int 8) .nil)))))) (.cons (.set (.name 6) (.int 0)) (.cons (.for_ (.name 7) (.range2 (.int 1) (.op .add (.min2 (.int 3) (.bi .len (.ix (.pk 3) (.int 0)))) (.int 1))) (.cons (.ife (.not (.val (.call i__law_judged (.cons (.var 3) (.cons (.var 4) (.cons (.var 5) (.cons (.var 7) .nil))))))) (.cons (.ret .fa) .nil) .nil) (.cons (.ife (.cmp .eq (.call i__law_targets (.cons (.var 4) (.cons (.var 7) .nil))) (.call i__law_targets (.cons (.var 5) (.cons (.var 7) .nil)))) (.cons (.set (.name 6) (.var 7)) .nil) .nil) .nil))) (.cons (.ife (.or (.cmp .ne (.call i_reached_strength (appEs (.cons (.var 3) .nil) (.cons (.var 5) .nil))) (.pk 6)) (.not (.val (.call i__law_errors (.cons (.var 3) (.cons (.var 5) .nil)))))) (.cons (.ret .fa) .nil) .nil) .nil))))))) (.cons (.ret .tr) .nil))⟩
/-- is_redundant(suite, index, strength); slots suite, index, strength, known, one -/
def f_is_redundant (i_counted i_projections : Nat) : Fn := ⟨3, 5, .cons (.set (.name 3) (.call i_counted (.cons (.var 0) (.cons (.var 2) .nil)))) (.cons (.ret (.bi .all (.comp (.op .gt (.ix (.pk 3) (.pk 4)) (.int 1)) (.name 4) (.seq (.call i_projections (.cons (.ix (.pk 0) (.pk 1)) (.cons (.var 2) .nil)))) .yes [4]))) .nil)⟩
/-- redundant(model, suite, strength); slots model, suite, strength, index -/
def f_redundant (i_check_all i_is_redundant : Nat) : Fn := ⟨3, 4, .cons (.expr (.call i_check_all (.cons (.var 0) (.cons (.var 1) (.cons (.var 2) .nil))))) (.cons (.ret (.bi .tuple (.comp (.var 3) (.name 3) (.range1 (.bi .len (.pk 1))) (.one (.val (.call i_is_redundant (.cons (.var 1) (.cons (.var 3) (.cons (.var 2) .nil)))))) [3]))) .nil)⟩
/-- only_once(model, suite, strength); slots model, suite, strength, known, found, index, test, one -/
def f_only_once (i_check_all i_counted i_projections : Nat) : Fn := ⟨3, 8, .cons (.expr (.call i_check_all (.cons (.var 0) (.cons (.var 1) (.cons (.var 2) .nil))))) (.cons (.par 3 4 false true (.call i_counted (.cons (.var 1) (.cons (.var 2) .nil))) (.lst .nil)) (.cons (.for_ (.tup (.cons (.name 5) (.cons (.name 6) .nil))) (.enum (.var 1)) (.cons (.ext 4 (.comp (.tup (.cons (.var 7) (.cons (.var 5) .nil))) (.name 7) (.seq (.call i_projections (.cons (.var 6) (.cons (.var 2) .nil)))) (.one (.cmp .eq (.ix (.pk 3) (.pk 7)) (.int 1))) [7])) .nil)) (.cons (.ret (.bi .tuple (.bi .sorted (.pk 4)))) .nil)))⟩
/-- smallest_part(model, suite, strength); slots model, suite, strength, many, size, indices, index -/
def f_smallest_part (i_check_all i_counted i_subsets x_TooLarge : Nat) : Fn := ⟨3, 7, .cons (.expr (.call i_check_all (.cons (.var 0) (.cons (.var 1) (.cons (.var 2) .nil))))) (.cons (.ife (.cmp .gt (.bi .len (.pk 1)) (.gint "MANY" 10)) (.cons (.raise x_TooLarge) .nil) .nil) (.cons (.set (.name 3) (.bi .len (.call i_counted (.cons (.var 1) (.cons (.var 2) .nil))))) (.cons (.for_ (.name 4) (.range1 (.op .add (.bi .len (.pk 1)) (.int 1))) (.cons (.for_ (.name 5) (.seq (.call i_subsets (.cons (.bi .len (.pk 1)) (.cons (.var 4) .nil)))) (.cons (.ife (.cmp .eq (.bi .len (.call i_counted (.cons (.comp (.ix (.pk 1) (.pk 6)) (.name 6) (.seq (.var 5)) .yes [6]) (.cons (.var 2) .nil)))) (.pk 3)) (.cons (.ret (.var 5)) .nil) .nil) .nil)) .nil)) (.cons (.ret .none) .nil))))⟩
/-- law(script); slots script, town, k, model, suite, strength, longer, new, less, needed, due, part, kept, known, one, other, test, target, index -/
def f_law_k14 (i__law_begun i__law_draw i__law_model i__law_suite i__law_tests i_covered i_extend i_gains i_is_covering i_only_once i_reduce i_redundant i_smallest_part : Nat) : Fn := ⟨1, 19, .cons (.set (.name 1) (.call i__law_begun .nil)) (.cons (.for_ (.name 2) (.range1 (.int 4)) (.cons (.set (.name 3) (.call i__law_model (.cons (.var 0) (.cons (.var 1) (.cons (.int 3) (.cons (.int 3) (.cons (.int 3) .nil))))))) (.cons (.set (.name 4) (.call i__law_suite (.cons (.var 0) (.cons (.var 1) (.cons (.call i__law_tests (.cons (.var 3) .nil)) (.cons (.int 6) .nil)))))) (.cons (.set (.name 5) (.op .add (.int 1) (.call i__law_draw (.cons (.var 0) (.cons (.var 1) (.cons (.min2 (.int 3) (.bi .len (.ix (.pk 3) (.int 0)))) .nil)))))) (.cons (.set (.name 6) (.call i_extend (.cons (.var 3) (.cons (.var 4) (.cons (.var 5) .nil))))) (.cons (.ife (.cmp .ne (.sl (.pk 6) .no (.so (.bi .len (.pk 4)))) (.pk 4)) (.cons (.ret .fa) .nil) .nil) (.cons (.ife (.cmp .le (.bi .len (.pk 6)) (.int 40)) (.cons (.ife (.or (.not (.val (.call i_is_covering (.cons (.var 3) (.cons (.var 6) (.cons (.var 5) .nil)))))) (.cmp .ne (.call i_extend (.cons (.var 3) (.cons (.var 6) (.cons (.var 5) .nil)))) (.pk 6))) (.cons (.ret .fa) .nil) .nil) (.cons (.set (.name 7) (.sl (.call i_gains (.cons (.var 3) (.cons (.var 6) (.cons (.var 5) .nil)))) (.so (.bi .len (.pk 4))) .no)) (.cons (.ife (.or (.cmp .ne (.comp (.int 1) (.tup (.cons (.name 14) (.cons (.name 15) .nil))) (.zip (.var 7) (.sl (.pk 7) (.so (.int 1)) .no)) (.one (.cmp .gt (.pk 15) (.pk 14))) [14, 15]) (.lst .nil)) (.cmp .isin (.int 0) (.pk 7))) (.cons (.ret .fa) .nil) .nil) .nil))) .nil) (.cons (.set (.name 8) (.call i_reduce (.cons (.var 3) (.cons (.var 4) (.cons (.var 5) .nil))))) (.cons (.ife (.cmp .ne (.call i_covered (.cons (.var 3) (.cons (.var 8) (.cons (.var 5) .nil)))) (.call i_covered (.cons (.var 3) (.cons (.var 4) (.cons (.var 5) .nil))))) (.cons (.ret .fa) .nil) .nil) (.cons (.ife (.cmp .ne (.call i_redundant (.cons (.var 3) (.cons (.var 8) (.cons (.var 5) .nil)))) (.tup .nil)) (.cons (.ret .fa) .nil) .nil) (.cons (.ife (.cmp .ne (.comp (.var 16) (.name 16) (.seq (.var 8)) (.one (.cmp .notin (.pk 16) (.pk 4))) [16]) (.lst .nil)) (.cons (.ret .fa) .nil) .nil) (.cons (.set (.name 9) (.comp (.var 18) (.tup (.cons (.name 17) (.cons (.name 18) .nil))) (.seq (.call i_only_once (.cons (.var 3) (.cons (.var 4) (.cons (.var 5) .nil))))) .yes [17, 18])) (.cons (.set (.name 10) (.bi .tuple (.comp (.var 18) (.name 18) (.range1 (.bi .len (.pk 4))) (.one (.cmp .notin (.pk 18) (.pk 9))) [18]))) (.cons (.ife (.cmp .ne (.call i_redundant (.cons (.var 3) (.cons (.var 4) (.cons (.var 5) .nil)))) (.pk 10)) (.cons (.ret .fa) .nil) .nil) (.cons (.set (.name 11) (.call i_smallest_part (.cons (.var 3) (.cons (.var 4) (.cons (.var 5) .nil))))) (.cons (.set (.name 12) (.bi .tuple (.comp (.ix (.pk 4) (.pk 18)) (.name 18) (.seq (.var 11)) .yes [18]))) (.cons (.set (.name 13) (.call i_covered (.cons (.var 3) (.cons (.var 4) (.cons (.var 5) .nil))))) (.cons (.ife (.or (.cmp .gt (.bi .len (.pk 11)) (.bi .len (.pk 8))) (.cmp .ne (.call i_covered (.cons (.var 3) (.cons (.var 12) (.cons (.var 5) .nil)))) (.pk 13))) (.cons (.ret .fa) .nil) .nil) (.cons (.ife (.cmp .ne (.comp (.var 18) (.name 18) (.seq (.var 9)) (.one (.cmp .notin (.pk 18) (.pk 11))) [18]) (.lst .nil)) (.cons (.ret .fa) .nil) .nil) .nil))))))))))))))))))) (.cons (.ret .tr) .nil))⟩
/-- _law_little(script, town, most); slots script, town, most, model_here, tests, rules, sizes, kept, rule, bad, one, value_here -/
def f_law_little (i__law_model i__law_tests : Nat) : Fn := ⟨3, 12, .cons (.set (.name 3) (.call i__law_model (.cons (.var 0) (.cons (.var 1) (.cons (.int 3) (.cons (.int 3) (.cons (.int 3) .nil))))))) (.cons (.set (.name 4) (.call i__law_tests (.cons (.var 3) .nil))) (.cons (.while_ (.or (.cmp .eq (.pk 4) (.lst .nil)) (.cmp .gt (.bi .len (.pk 4)) (.pk 2))) (.cons (.set (.name 5) (.ite (.cmp .eq (.pk 4) (.lst .nil)) (.sl (.ix (.pk 3) (.int 1)) (.so (.int 1)) .no) (.ix (.pk 3) (.int 1)))) (.cons (.set (.name 6) (.ite (.cmp .eq (.pk 4) (.lst .nil)) (.ix (.pk 3) (.int 0)) (.op .mul (.tup (.cons (.int 2) .nil)) (.bi .len (.ix (.pk 3) (.int 0)))))) (.cons (.set (.name 6) (.ite (.cmp .le (.bi .len (.pk 4)) (.pk 2)) (.var 6) (.sl (.pk 6) .no (.so (.int 3))))) (.cons (.set (.name 7) (.lst .nil)) (.cons (.for_ (.name 8) (.seq (.var 5)) (.cons (.set (.name 9) (.comp (.int 1) (.tup (.cons (.name 10) (.cons (.name 11) .nil))) (.seq (.var 8)) (.one (.or (.cmp .ge (.pk 10) (.bi .len (.pk 6))) (.cmp .ge (.pk 11) (.ix (.pk 6) (.pk 10))))) [10, 11])) (.cons (.set (.name 7) (.op .add (.pk 7) (.ite (.cmp .eq (.pk 9) (.lst .nil)) (.lst (.cons (.var 8) .nil)) (.lst .nil)))) .nil))) (.cons (.set (.name 5) (.var 7)) (.cons (.set (.name 3) (.tup (.cons (.var 6) (.cons (.bi .tuple (.pk 5)) .nil)))) (.cons (.set (.name 4) (.call i__law_tests (.cons (.var 3) .nil))) .nil))))))))) (.cons (.ret (.var 3)) .nil)))⟩
/-- _law_low(top, below); slots top, below, one, two -/
def f_law_low : Fn := ⟨2, 4, .cons (.par 2 3 false false (.bi .abs (.pk 0)) (.var 1)) (.cons (.while_ (.cmp .gt (.pk 3) (.int 0)) (.cons (.par 2 3 false false (.var 3) (.op .mod (.pk 2) (.pk 3))) .nil)) (.cons (.ret (.tup (.cons (.op .fdiv (.pk 0) (.pk 2)) (.cons (.op .fdiv (.pk 1) (.pk 2)) .nil)))) .nil))⟩
/-- _law_total(values); slots values, top, below, one, part -/
def f_law_total (i__law_low : Nat) : Fn := ⟨1, 5, .cons (.par 1 2 false false (.int 0) (.int 1)) (.cons (.for_ (.name 3) (.seq (.var 0)) (.cons (.ife (.or (.not (.val (.isi .tuple (.pk 3)))) (.cmp .ne (.bi .len (.pk 3)) (.int 2))) (.cons (.ret .none) .nil) .nil) (.cons (.ife (.cmp .ne (.comp (.int 1) (.name 4) (.seq (.var 3)) (.one (.or (.not (.val (.isi .int (.pk 4)))) (.val (.isi .bool (.pk 4))))) [4]) (.lst .nil)) (.cons (.ret .none) .nil) .nil) (.cons (.ife (.or (.cmp .lt (.ix (.pk 3) (.int 0)) (.int 0)) (.or (.cmp .lt (.ix (.pk 3) (.int 1)) (.int 1)) (.cmp .ne (.call i__law_low (.cons (.ix (.pk 3) (.int 0)) (.cons (.ix (.pk 3) (.int 1)) .nil))) (.pk 3)))) (.cons (.ret .none) .nil) .nil) (.cons (.set (.tup (.cons (.name 1) (.cons (.name 2) .nil))) (.call i__law_low (.cons (.op .add (.op .mul (.pk 1) (.ix (.pk 3) (.int 1))) (.op .mul (.ix (.pk 3) (.int 0)) (.pk 2))) (.cons (.op .mul (.pk 2) (.ix (.pk 3) (.int 1))) .nil)))) .nil))))) (.cons (.ret (.tup (.cons (.var 1) (.cons (.var 2) .nil)))) .nil))⟩
/-- fraction(top, below); slots top, below, one, other -/
def f_fraction : Fn := ⟨2, 4, .cons (.par 2 3 false false (.bi .abs (.pk 0)) (.bi .abs (.pk 1))) (.cons (.while_ (.cmp .gt (.pk 3) (.int 0)) (.cons (.par 2 3 false false (.var 3) (.op .mod (.pk 2) (.pk 3))) .nil)) (.cons (.set (.name 2) (.ite (.cmp .gt (.pk 1) (.int 0)) (.var 2) (.neg (.pk 2)))) (.cons (.ret (.tup (.cons (.op .fdiv (.pk 0) (.pk 2)) (.cons (.op .fdiv (.pk 1) (.pk 2)) .nil)))) .nil)))⟩
/-- plus(one, other); slots one, other -/
def f_plus (i_fraction : Nat) : Fn := ⟨2, 2, .cons (.ret (.call i_fraction (.cons (.op .add (.op .mul (.ix (.pk 0) (.int 0)) (.ix (.pk 1) (.int 1))) (.op .mul (.ix (.pk 1) (.int 0)) (.ix (.pk 0) (.int 1)))) (.cons (.op .mul (.ix (.pk 0) (.int 1)) (.ix (.pk 1) (.int 1))) .nil)))) .nil⟩
/-- _law_random(script, town, many); slots script, town, many, k -/
def f_law_random (i__law_draw i__law_low : Nat) : Fn := ⟨3, 4, .cons (.ret (.bi .tuple (.comp (.call i__law_low (.cons (.call i__law_draw (.cons (.var 0) (.cons (.var 1) (.cons (.int 4) .nil)))) (.cons (.op .add (.int 1) (.call i__law_draw (.cons (.var 0) (.cons (.var 1) (.cons (.int 4) .nil))))) .nil))) (.name 3) (.range1 (.pk 2)) .yes [3]))) .nil⟩
/-- _law_is_cover(tests, goals, value_here); slots tests, goals, value_here, goal, top, below, one, test -/
def f_law_is_cover (i__law_has i__law_total : Nat) : Fn := ⟨3, 8, .cons (.ife (.or (.not (.val (.isi .tuple (.pk 2)))) (.or (.cmp .ne (.bi .len (.pk 2)) (.bi .len (.pk 0))) (.cmp .isN (.call i__law_total (.cons (.var 2) .nil)) .none))) (.cons (.ret .fa) .nil) .nil) (.cons (.for_ (.name 3) (.seq (.var 1)) (.cons (.set (.tup (.cons (.name 4) (.cons (.name 5) .nil))) (.call i__law_total (.cons (.comp (.var 6) (.tup (.cons (.name 6) (.cons (.name 7) .nil))) (.zip (.var 2) (.var 0)) (.one (.val (.call i__law_has (.cons (.var 7) (.cons (.var 3) .nil))))) [6, 7]) .nil))) (.cons (.ife (.cmp .lt (.pk 4) (.pk 5)) (.cons (.ret .fa) .nil) .nil) .nil))) (.cons (.ret .tr) .nil))⟩
/-- _law_is_packing(tests, goals, value_here); slots tests, goals, value_here, test, top, below, one, goal -/
def f_law_is_packing (i__law_has i__law_total : Nat) : Fn := ⟨3, 8, .cons (.ife (.or (.not (.val (.isi .tuple (.pk 2)))) (.or (.cmp .ne (.bi .len (.pk 2)) (.bi .len (.pk 1))) (.cmp .isN (.call i__law_total (.cons (.var 2) .nil)) .none))) (.cons (.ret .fa) .nil) .nil) (.cons (.for_ (.name 3) (.seq (.var 0)) (.cons (.set (.tup (.cons (.name 4) (.cons (.name 5) .nil))) (.call i__law_total (.cons (.comp (.var 6) (.tup (.cons (.name 6) (.cons (.name 7) .nil))) (.zip (.var 2) (.var 1)) (.one (.val (.call i__law_has (.cons (.var 3) (.cons (.var 7) .nil))))) [6, 7]) .nil))) (.cons (.ife (.cmp .gt (.pk 4) (.pk 5)) (.cons (.ret .fa) .nil) .nil) .nil))) (.cons (.ret .tr) .nil))⟩
/-- is_less(one, other); slots one, other -/
def f_is_less : Fn := ⟨2, 2, .cons (.ret (.op .lt (.op .mul (.ix (.pk 0) (.int 0)) (.ix (.pk 1) (.int 1))) (.op .mul (.ix (.pk 1) (.int 0)) (.ix (.pk 0) (.int 1))))) .nil⟩
/-- is_share(value); slots value, one -/
def f_is_share (i_fraction i_is_integer : Nat) : Fn := ⟨1, 2, .cons (.ife (.or (.not (.val (.isi .tuple (.pk 0)))) (.or (.cmp .ne (.bi .len (.pk 0)) (.int 2)) (.not (.val (.bi .all (.comp (.call i_is_integer (.cons (.var 1) .nil)) (.name 1) (.seq (.var 0)) .yes [1])))))) (.cons (.ret .fa) .nil) .nil) (.cons (.ret (.and (.op .ge (.ix (.pk 0) (.int 0)) (.int 0)) (.and (.op .gt (.ix (.pk 0) (.int 1)) (.int 0)) (.op .eq (.call i_fraction (.cons (.ix (.pk 0) (.int 0)) (.cons (.ix (.pk 0) (.int 1)) .nil))) (.pk 0))))) .nil)⟩
/-- law(script); slots script, town, k, model_here, tests, strength_here, goals, cover, packing, top, below, odds, value_here, due -/
def f_law_k16 (i__law_begun i__law_draw i__law_errors i__law_is i__law_is_cover i__law_is_packing i__law_little i__law_random i__law_targets i__law_tests i__law_total i_best_cover i_best_packing i_is_cover i_is_packing i_lower_bound : Nat) : Fn := ⟨1, 14, .cons (.set (.name 1) (.call i__law_begun .nil)) (.cons (.for_ (.name 2) (.range1 (.int 3)) (.cons (.set (.name 3) (.call i__law_little (.cons (.var 0) (.cons (.var 1) (.cons (.int 20) .nil))))) (.cons (.set (.name 4) (.call i__law_tests (.cons (.var 3) .nil))) (.cons (.set (.name 5) (.op .add (.int 1) (.call i__law_draw (.cons (.var 0) (.cons (.var 1) (.cons (.min2 (.int 3) (.bi .len (.ix (.pk 3) (.int 0)))) .nil)))))) (.cons (.set (.name 6) (.call i__law_targets (.cons (.var 4) (.cons (.var 5) .nil)))) (.cons (.set (.name 7) (.call i_best_cover (.cons (.var 3) (.cons (.var 5) .nil)))) (.cons (.set (.name 8) (.call i_best_packing (.cons (.var 3) (.cons (.var 5) .nil)))) (.cons (.ife (.or (.not (.val (.call i__law_is_cover (.cons (.var 4) (.cons (.var 6) (.cons (.var 7) .nil)))))) (.not (.val (.call i__law_is_packing (.cons (.var 4) (.cons (.var 6) (.cons (.var 8) .nil))))))) (.cons (.ret .fa) .nil) .nil) (.cons (.set (.tup (.cons (.name 9) (.cons (.name 10) .nil))) (.call i__law_total (.cons (.var 7) .nil))) (.cons (.ife (.cmp .ne (.call i__law_total (.cons (.var 8) .nil)) (.tup (.cons (.var 9) (.cons (.var 10) .nil)))) (.cons (.ret .fa) .nil) .nil) (.cons (.ife (.cmp .ne (.call i_lower_bound (.cons (.var 3) (.cons (.var 5) .nil))) (.op .fdiv (.op .sub (.op .add (.pk 9) (.pk 10)) (.int 1)) (.pk 10))) (.cons (.ret .fa) .nil) .nil) (.cons (.setM 11 (.lst (.cons (.var 7) (.cons (.var 8) (.cons (.call i__law_random (.cons (.var 0) (.cons (.var 1) (.cons (.bi .len (.pk 4)) .nil)))) (.cons (.call i__law_random (.cons (.var 0) (.cons (.var 1) (.cons (.bi .len (.pk 6)) .nil)))) (.cons .none (.cons (.tup .nil) .nil)))))))) (.cons (.set (.name 11) (.op .add (.pk 11) (.lst (.cons (.sl (.pk 7) (.so (.int 1)) .no) (.cons (.sl (.pk 8) (.so (.int 1)) .no) (.cons (.bi .list (.pk 7)) (.cons (.op .add (.sl (.pk 7) .no (.so (.neg (.int 1)))) (.tup (.cons (.tup (.cons (.neg (.int 1)) (.cons (.int 1) .nil))) .nil))) (.cons (.op .add (.sl (.pk 8) .no (.so (.neg (.int 1)))) (.tup (.cons (.tup (.cons (.int 2) (.cons (.int 2) .nil))) .nil))) .nil)))))))) (.cons (.app 11 (.op .add (.pk 7) (.tup (.cons (.tup (.cons (.int 0) (.cons (.int 1) .nil))) .nil)))) (.cons (.set (.name 11) (.op .add (.pk 11) (.lst (.cons (.op .add (.sl (.pk 7) .no (.so (.neg (.int 1)))) (.tup (.cons (.int 1) .nil))) (.cons (.op .add (.sl (.pk 8) .no (.so (.neg (.int 1)))) (.tup (.cons (.tup (.cons (.int 0) (.cons (.neg (.int 1)) .nil))) .nil))) (.cons (.op .mul (.tup (.cons (.tup (.cons (.int 1) (.cons (.int 1) .nil))) .nil)) (.bi .len (.pk 4))) (.cons (.op .mul (.tup (.cons (.tup (.cons (.int 0) (.cons (.int 1) .nil))) .nil)) (.bi .len (.pk 6))) .nil))))))) (.cons (.for_ (.name 12) (.seq (.var 11)) (.cons (.set (.name 13) (.call i__law_is_cover (.cons (.var 4) (.cons (.var 6) (.cons (.var 12) .nil))))) (.cons (.ife (.not (.val (.call i__law_is (.cons (.call i_is_cover (appEs (.cons (.var 3) (.cons (.var 5) .nil)) (.cons (.var 12) .nil))) (.cons (.var 13) .nil))))) (.cons (.ret .fa) .nil) .nil) (.cons (.set (.name 13) (.call i__law_is_packing (.cons (.var 4) (.cons (.var 6) (.cons (.var 12) .nil))))) (.cons (.ife (.not (.val (.call i__law_is (.cons (.call i_is_packing (appEs (.cons (.var 3) (.cons (.var 5) .nil)) (.cons (.var 12) .nil))) (.cons (.var 13) .nil))))) (.cons (.ret .fa) .nil) .nil) .nil))))) (.cons (.ife (.not (.val (.call i__law_errors (.cons (.var 3) .nil)))) (.cons (.ret .fa) .nil) .nil) .nil))))))))))))))))) (.cons (.ret .tr) .nil))⟩
/-- search(parts, left, start, many); slots parts, left, start, many, index, rest, found, part, one -/
def f_search (i_search : Nat) : Fn := ⟨4, 9, .cons (.ife (.not (.val (.pk 1))) (.cons (.ret (.tup .nil)) .nil) .nil) (.cons (.ife (.cmp .gt (.bi .len (.pk 1)) (.op .mul (.pk 3) (.bi .len (.ix (.pk 0) (.int 0))))) (.cons (.ret .none) .nil) .nil) (.cons (.for_ (.name 4) (.range2 (.pk 2) (.bi .len (.pk 0))) (.cons (.ife (.not (.val (.bi .all (.comp (.bi .any (.comp (.op .isin (.pk 8) (.pk 7)) (.name 7) (.seq (.sl (.pk 0) (.so (.pk 4)) .no)) .yes [7])) (.name 8) (.seq (.var 1)) .yes [8])))) (.cons (.ret .none) .nil) .nil) (.cons (.set (.name 5) (.comp (.var 8) (.name 8) (.seq (.var 1)) (.one (.cmp .notin (.pk 8) (.ix (.pk 0) (.pk 4)))) [8])) (.cons (.set (.name 6) (.ite (.cmp .lt (.bi .len (.pk 5)) (.bi .len (.pk 1))) (.call i_search (.cons (.var 0) (.cons (.var 5) (.cons (.op .add (.pk 4) (.int 1)) (.cons (.op .sub (.pk 3) (.int 1)) .nil))))) .none)) (.cons (.ife (.cmp .notN (.pk 6) .none) (.cons (.ret (.op .add (.tup (.cons (.var 4) .nil)) (.pk 6))) .nil) .nil) .nil))))) (.cons (.ret .none) .nil)))⟩
/-- smallest_suite(model, strength); slots model, strength, tests, parts, many, found, test, index -/
def f_smallest_suite (i_all_targets i_all_tests i_check_model i_check_strength i_projections i_search x_TooLarge : Nat) : Fn := ⟨2, 8, .cons (.expr (.call i_check_model (.cons (.var 0) .nil))) (.cons (.expr (.call i_check_strength (.cons (.var 0) (.cons (.var 1) .nil)))) (.cons (.set (.name 2) (.call i_all_tests (.cons (.var 0) .nil))) (.cons (.ife (.cmp .gt (.bi .len (.pk 2)) (.int 16)) (.cons (.raise x_TooLarge) .nil) .nil) (.cons (.set (.name 3) (.comp (.call i_projections (.cons (.var 6) (.cons (.var 1) .nil))) (.name 6) (.seq (.var 2)) .yes [6])) (.cons (.for_ (.name 4) (.range1 (.op .add (.bi .len (.pk 2)) (.int 1))) (.cons (.set (.name 5) (.call i_search (.cons (.var 3) (.cons (.call i_all_targets (.cons (.var 0) (.cons (.var 1) .nil))) (.cons (.int 0) (.cons (.var 4) .nil)))))) (.cons (.ife (.cmp .notN (.pk 5) .none) (.cons (.ret (.bi .tuple (.comp (.ix (.pk 2) (.pk 7)) (.name 7) (.seq (.var 5)) .yes [7]))) .nil) .nil) .nil))) (.cons (.ret .none) .nil))))))⟩
/-- _law_less(one, other); slots one, other -/
def f_law_less : Fn := ⟨2, 2, .cons (.ret (.op .lt (.op .mul (.ix (.pk 0) (.int 0)) (.ix (.pk 1) (.int 1))) (.op .mul (.ix (.pk 1) (.int 0)) (.ix (.pk 0) (.int 1))))) .nil⟩
/-- _law_small(script, town); slots script, town, model, rule -/
def f_law_small (i__law_draw i__law_model : Nat) : Fn := ⟨2, 4, .cons (.set (.name 2) (.call i__law_model (.cons (.var 0) (.cons (.var 1) (.cons (.int 3) (.cons (.int 3) (.cons (.int 2) .nil))))))) (.cons (.ife (.cmp .eq (.call i__law_draw (.cons (.var 0) (.cons (.var 1) (.cons (.int 6) .nil)))) (.int 0)) (.cons (.set (.name 2) (.tup (.cons (.tup (.cons (.int 2) (.cons (.int 2) (.cons (.int 2) (.cons (.int 2) .nil))))) (.cons (.tup .nil) .nil)))) .nil) .nil) (.cons (.ife (.cmp .lt (.bi .sum (.ix (.pk 2) (.int 0))) (.int 9)) (.cons (.ret (.var 2)) .nil) .nil) (.cons (.ret (.tup (.cons (.op .add (.tup (.cons (.int 2) .nil)) (.sl (.ix (.pk 2) (.int 0)) (.so (.int 1)) .no)) (.cons (.bi .tuple (.comp (.var 3) (.name 3) (.seq (.ix (.pk 2) (.int 1))) (.one (.cmp .notin (.tup (.cons (.int 0) (.cons (.int 2) .nil))) (.pk 3))) [3])) .nil)))) .nil)))⟩
/-- _law_hypotheses(tests, most); slots tests, most, faults, found, at, one, other, common, pair -/
def f_law_hypotheses (i__law_targets : Nat) : Fn := ⟨2, 9, .cons (.par 2 3 false true (.op .add (.call i__law_targets (.cons (.var 0) (.cons (.int 1) .nil))) (.call i__law_targets (.cons (.var 0) (.cons (.int 2) .nil)))) (.lst (.cons (.tup .nil) .nil))) (.cons (.set (.name 2) (.bi .sorted (.pk 2))) (.cons (.ife (.cmp .gt (.pk 1) (.int 0)) (.cons (.ext 3 (.comp (.tup (.cons (.var 5) .nil)) (.name 5) (.seq (.var 2)) .yes [5])) .nil) .nil) (.cons (.ife (.cmp .gt (.pk 1) (.int 1)) (.cons (.for_ (.tup (.cons (.name 4) (.cons (.name 5) .nil))) (.enum (.var 2)) (.cons (.for_ (.name 6) (.seq (.sl (.pk 2) (.so (.op .add (.pk 4) (.int 1))) .no)) (.cons (.set (.name 7) (.bi .len (.comp (.var 8) (.name 8) (.seq (.var 5)) (.one (.cmp .isin (.pk 8) (.pk 6))) [8]))) (.cons (.ife (.cmp .lt (.pk 7) (.min2 (.bi .len (.pk 5)) (.bi .len (.pk 6)))) (.cons (.app 3 (.tup (.cons (.var 5) (.cons (.var 6) .nil)))) .nil) .nil) .nil))) .nil)) .nil) .nil) (.cons (.ret (.bi .sorted (.pk 3))) .nil))))⟩
/-- _law_fails(hypothesis_here, test_here); slots hypothesis_here, test_here, fault -/
def f_law_fails (i__law_has : Nat) : Fn := ⟨2, 3, .cons (.ret (.op .ne (.comp (.int 1) (.name 2) (.seq (.var 0)) (.one (.val (.call i__law_has (.cons (.var 1) (.cons (.var 2) .nil))))) [2]) (.lst .nil))) .nil⟩
/-- is_fault(model, value); slots model, value -/
def f_is_fault (i_first_completion i_is_combination_of : Nat) : Fn := ⟨2, 2, .cons (.ife (.or (.not (.val (.call i_is_combination_of (.cons (.ix (.pk 0) (.int 0)) (.cons (.var 1) .nil))))) (.cmp .gt (.bi .len (.pk 1)) (.int 2))) (.cons (.ret .fa) .nil) .nil) (.cons (.ret (.op .notN (.call i_first_completion (.cons (.var 0) (.cons (.var 1) .nil))) .none)) .nil)⟩
/-- is_hypothesis_of(model, value); slots model, value, one -/
def f_is_hypothesis_of (i_is_ascending i_is_fault i_is_part : Nat) : Fn := ⟨2, 3, .cons (.ife (.or (.not (.val (.isi .tuple (.pk 1)))) (.or (.cmp .gt (.bi .len (.pk 1)) (.int 2)) (.not (.val (.bi .all (.comp (.call i_is_fault (.cons (.var 0) (.cons (.var 2) .nil))) (.name 2) (.seq (.var 1)) .yes [2])))))) (.cons (.ret .fa) .nil) .nil) (.cons (.ife (.not (.val (.call i_is_ascending (.cons (.var 1) .nil)))) (.cons (.ret .fa) .nil) .nil) (.cons (.ret (.or (.op .lt (.bi .len (.pk 1)) (.int 2)) (.and (.not (.call i_is_part (.cons (.ix (.pk 1) (.int 0)) (.cons (.ix (.pk 1) (.int 1)) .nil)))) (.not (.call i_is_part (.cons (.ix (.pk 1) (.int 1)) (.cons (.ix (.pk 1) (.int 0)) .nil))))))) .nil))⟩
/-- is_hypothesis(model, value); slots model, value -/
def f_is_hypothesis (i_check_model i_is_hypothesis_of : Nat) : Fn := ⟨2, 2, .cons (.expr (.call i_check_model (.cons (.var 0) .nil))) (.cons (.ret (.call i_is_hypothesis_of (.cons (.var 0) (.cons (.var 1) .nil)))) .nil)⟩
/-- check_hypothesis(model, hypothesis); slots model, hypothesis -/
def f_check_hypothesis (i_is_hypothesis_of x_InvalidHypothesis : Nat) : Fn := ⟨2, 2, .cons (.ife (.not (.val (.call i_is_hypothesis_of (.cons (.var 0) (.cons (.var 1) .nil))))) (.cons (.raise x_InvalidHypothesis) .nil) .nil) .nil⟩
/-- does_fail(hypothesis, test); slots hypothesis, test, fault -/
def f_does_fail (i_has_all : Nat) : Fn := ⟨2, 3, .cons (.ret (.bi .any (.comp (.call i_has_all (.cons (.var 1) (.cons (.var 2) .nil))) (.name 2) (.seq (.var 0)) .yes [2]))) .nil⟩
/-- fails(model, hypothesis, test); slots model, hypothesis, test -/
def f_fails (i_check_hypothesis i_check_model i_check_test i_does_fail : Nat) : Fn := ⟨3, 3, .cons (.expr (.call i_check_model (.cons (.var 0) .nil))) (.cons (.expr (.call i_check_hypothesis (.cons (.var 0) (.cons (.var 1) .nil)))) (.cons (.expr (.call i_check_test (.cons (.var 0) (.cons (.var 2) .nil)))) (.cons (.ret (.call i_does_fail (.cons (.var 1) (.cons (.var 2) .nil)))) .nil)))⟩
/-- is_result(model, value); slots model, value -/
def f_is_result (i_is_test_of : Nat) : Fn := ⟨2, 2, .cons (.ife (.or (.not (.val (.isi .tuple (.pk 1)))) (.cmp .ne (.bi .len (.pk 1)) (.int 2))) (.cons (.ret .fa) .nil) .nil) (.cons (.ret (.and (.call i_is_test_of (.cons (.var 0) (.cons (.ix (.pk 1) (.int 0)) .nil))) (.isi .bool (.ix (.pk 1) (.int 1))))) .nil)⟩
/-- check_results(model, results); slots model, results, good, one -/
def f_check_results (i_is_result x_InvalidResults : Nat) : Fn := ⟨2, 4, .cons (.set (.name 2) (.and (.isi .tuple (.pk 1)) (.op .le (.bi .len (.pk 1)) (.gint "RESULTS" 20)))) (.cons (.ife (.or (.not (.val (.pk 2))) (.not (.val (.bi .all (.comp (.call i_is_result (.cons (.var 0) (.cons (.var 3) .nil))) (.name 3) (.seq (.var 1)) .yes [3]))))) (.cons (.raise x_InvalidResults) .nil) .nil) .nil)⟩
/-- cleared(model, results); slots model, results, found, test, failed, one -/
def f_cleared (i_check_model i_check_results i_projections : Nat) : Fn := ⟨2, 6, .cons (.expr (.call i_check_model (.cons (.var 0) .nil))) (.cons (.expr (.call i_check_results (.cons (.var 0) (.cons (.var 1) .nil)))) (.cons (.setM 2 .dnew) (.cons (.for_ (.tup (.cons (.name 3) (.cons (.name 4) .nil))) (.seq (.var 1)) (.cons (.ife (.not (.val (.pk 4))) (.cons (.for_ (.name 5) (.seq (.op .add (.call i_projections (.cons (.var 3) (.cons (.int 1) .nil))) (.call i_projections (.cons (.var 3) (.cons (.int 2) .nil))))) (.cons (.dput 2 (.var 5) .tr) .nil)) .nil) .nil) .nil)) (.cons (.ret (.bi .tuple (.bi .sorted (.pk 2)))) .nil))))⟩
/-- _law_results(script, town, tests, hypothesis, most_here); slots script, town, tests, hypothesis, most_here, found, k, test -/
def f_law_results (i__law_draw i__law_fails : Nat) : Fn := ⟨5, 8, .cons (.setM 5 (.lst .nil)) (.cons (.for_ (.name 6) (.range1 (.call i__law_draw (.cons (.var 0) (.cons (.var 1) (.cons (.op .add (.pk 4) (.int 1)) .nil))))) (.cons (.ife (.cmp .ne (.pk 2) (.lst .nil)) (.cons (.set (.name 7) (.ix (.pk 2) (.call i__law_draw (.cons (.var 0) (.cons (.var 1) (.cons (.bi .len (.pk 2)) .nil)))))) (.cons (.app 5 (.tup (.cons (.var 7) (.cons (.op .ne (.call i__law_fails (.cons (.var 3) (.cons (.var 7) .nil))) (.op .eq (.call i__law_draw (.cons (.var 0) (.cons (.var 1) (.cons (.int 15) .nil)))) (.int 0))) .nil)))) .nil)) .nil) .nil)) (.cons (.ret (.bi .tuple (.pk 5))) .nil))⟩
/-- check_small(model); slots model -/
def f_check_small (i_check_model x_TooLarge : Nat) : Fn := ⟨1, 1, .cons (.expr (.call i_check_model (.cons (.var 0) .nil))) (.cons (.ife (.or (.cmp .gt (.bi .len (.ix (.pk 0) (.int 0))) (.int 4)) (.and (.cmp .eq (.bi .len (.ix (.pk 0) (.int 0))) (.int 4)) (.cmp .gt (.bi .max (.ix (.pk 0) (.int 0))) (.int 2)))) (.cons (.raise x_TooLarge) .nil) .nil) .nil)⟩
/-- check_number(most); slots most -/
def f_check_number (i_is_integer x_InvalidNumber : Nat) : Fn := ⟨1, 1, .cons (.ife (.or (.not (.val (.call i_is_integer (.cons (.var 0) .nil)))) (.not (.chain .le .le (.int 0) (.pk 0) (.int 2)))) (.cons (.raise x_InvalidNumber) .nil) .nil) .nil⟩
/-- check_question(model, results, most); slots model, results, most -/
def f_check_question (i_check_number i_check_results i_check_small : Nat) : Fn := ⟨3, 3, .cons (.expr (.call i_check_small (.cons (.var 0) .nil))) (.cons (.expr (.call i_check_results (.cons (.var 0) (.cons (.var 1) .nil)))) (.cons (.expr (.call i_check_number (.cons (.var 2) .nil))) .nil))⟩
/-- all_faults(model); slots model -/
def f_all_faults (i_possible_of : Nat) : Fn := ⟨1, 1, .cons (.ret (.bi .sorted (.op .add (.bi .list (.call i_possible_of (.cons (.var 0) (.cons (.int 1) .nil)))) (.bi .list (.call i_possible_of (.cons (.var 0) (.cons (.int 2) .nil))))))) .nil⟩
/-- all_hypotheses(model, most); slots model, most, faults, found, at, one, other -/
def f_all_hypotheses (i_all_faults i_is_part : Nat) : Fn := ⟨2, 7, .cons (.par 2 3 false true (.call i_all_faults (.cons (.var 0) .nil)) (.lst (.cons (.tup .nil) .nil))) (.cons (.ife (.cmp .gt (.pk 1) (.int 0)) (.cons (.ext 3 (.comp (.tup (.cons (.var 5) .nil)) (.name 5) (.seq (.var 2)) .yes [5])) .nil) .nil) (.cons (.ife (.cmp .gt (.pk 1) (.int 1)) (.cons (.for_ (.tup (.cons (.name 4) (.cons (.name 5) .nil))) (.enum (.var 2)) (.cons (.for_ (.name 6) (.seq (.sl (.pk 2) (.so (.op .add (.pk 4) (.int 1))) .no)) (.cons (.ife (.and (.not (.val (.call i_is_part (.cons (.var 5) (.cons (.var 6) .nil))))) (.not (.val (.call i_is_part (.cons (.var 6) (.cons (.var 5) .nil)))))) (.cons (.app 3 (.tup (.cons (.var 5) (.cons (.var 6) .nil)))) .nil) .nil) .nil)) .nil)) .nil) .nil) (.cons (.ret (.bi .sorted (.pk 3))) .nil)))⟩
/-- explaining(model, results, most); slots model, results, most, found, hypothesis, test, failed -/
def f_explaining (i_all_hypotheses i_does_fail : Nat) : Fn := ⟨3, 7, .cons (.setM 3 (.lst .nil)) (.cons (.for_ (.name 4) (.seq (.call i_all_hypotheses (.cons (.var 0) (.cons (.var 2) .nil)))) (.cons (.ife (.val (.bi .all (.comp (.op .eq (.call i_does_fail (.cons (.var 4) (.cons (.var 5) .nil))) (.pk 6)) (.tup (.cons (.name 5) (.cons (.name 6) .nil))) (.seq (.var 1)) .yes [5, 6]))) (.cons (.app 3 (.var 4)) .nil) .nil) .nil)) (.frz 3 (.cons (.ret (.var 3)) .nil)))⟩
/-- explanations(model, results, most); slots model, results, most -/
def f_explanations (i_check_question i_explaining : Nat) : Fn := ⟨3, 3, .cons (.expr (.call i_check_question (.cons (.var 0) (.cons (.var 1) (.cons (.var 2) .nil))))) (.cons (.ret (.bi .tuple (.call i_explaining (.cons (.var 0) (.cons (.var 1) (.cons (.var 2) .nil)))))) .nil)⟩
/-- explained(model, results, most); slots model, results, most, found -/
def f_explained (i_check_question i_explaining x_Unexplained : Nat) : Fn := ⟨3, 4, .cons (.expr (.call i_check_question (.cons (.var 0) (.cons (.var 1) (.cons (.var 2) .nil))))) (.cons (.set (.name 3) (.call i_explaining (.cons (.var 0) (.cons (.var 1) (.cons (.var 2) .nil))))) (.cons (.ife (.cmp .eq (.pk 3) (.lst .nil)) (.cons (.raise x_Unexplained) .nil) .nil) (.cons (.ret (.var 3)) .nil)))⟩
/-- suspects(model, results, most); slots model, results, most, found, hypothesis, fault -/
def f_suspects (i_explained : Nat) : Fn := ⟨3, 6, .cons (.setM 3 .dnew) (.cons (.for_ (.name 4) (.seq (.call i_explained (.cons (.var 0) (.cons (.var 1) (.cons (.var 2) .nil))))) (.cons (.for_ (.name 5) (.seq (.var 4)) (.cons (.dput 3 (.var 5) .tr) .nil)) .nil)) (.cons (.ret (.bi .tuple (.bi .sorted (.pk 3)))) .nil))⟩
/-- certain(model, results, most); slots model, results, most, some, fault, hypothesis -/
def f_certain (i_explained : Nat) : Fn := ⟨3, 6, .cons (.set (.name 3) (.call i_explained (.cons (.var 0) (.cons (.var 1) (.cons (.var 2) .nil))))) (.cons (.ret (.bi .tuple (.comp (.var 4) (.name 4) (.seq (.ix (.pk 3) (.int 0))) (.one (.val (.bi .all (.comp (.op .isin (.pk 4) (.pk 5)) (.name 5) (.seq (.var 3)) .yes [5])))) [4]))) .nil)⟩
/-- _law_sides(model, results, some, hidden); slots model, results, some, hidden, shut, fault, one -/
def f_law_sides (i_certain i_cleared i_explanations i_suspects : Nat) : Fn := ⟨4, 7, .cons (.set (.name 4) (.call i_cleared (.cons (.var 0) (.cons (.var 1) .nil)))) (.cons (.ife (.cmp .ne (.comp (.var 5) (.name 5) (.seq (.call i_suspects (.cons (.var 0) (.cons (.var 1) (.cons (.int 2) .nil))))) (.one (.cmp .isin (.pk 5) (.pk 4))) [5]) (.lst .nil)) (.cons (.ret .fa) .nil) .nil) (.cons (.ife (.cmp .ne (.comp (.var 5) (.name 5) (.seq (.call i_certain (.cons (.var 0) (.cons (.var 1) (.cons (.int 2) .nil))))) (.one (.cmp .notin (.pk 5) (.pk 3))) [5]) (.lst .nil)) (.cons (.ret .fa) .nil) .nil) (.cons (.ife (.and (.cmp .lt (.bi .len (.pk 3)) (.int 2)) (.cmp .eq (.sl (.call i_explanations (.cons (.var 0) (.cons (.var 1) (.cons (.int 1) .nil)))) .no (.so (.int 1))) (.tup .nil))) (.cons (.ret .fa) .nil) .nil) (.cons (.ret (.op .eq (.comp (.var 6) (.name 6) (.seq (.call i_explanations (.cons (.var 0) (.cons (.var 1) (.cons (.int 1) .nil))))) (.one (.cmp .notin (.pk 6) (.pk 2))) [6]) (.lst .nil))) .nil))))⟩
/-- law(script); slots script, town, k, model, tests, some, hidden, rows, results, counts, j, good, test, failed, halves, one -/
def f_law_k22 (i__law_begun i__law_draw i__law_sides i__law_small i__law_tests i_explanations i_fails i_is_hypothesis i_suspects : Nat) : Fn := ⟨1, 16, .cons (.set (.name 1) (.call i__law_begun .nil)) (.cons (.for_ (.name 2) (.range1 (.int 3)) (.cons (.set (.name 3) (.call i__law_small (.cons (.var 0) (.cons (.var 1) .nil)))) (.cons (.set (.name 4) (.call i__law_tests (.cons (.var 3) .nil))) (.cons (.ife (.cmp .eq (.pk 4) (.lst .nil)) (.cons (.ife (.or (.cmp .ne (.call i_explanations (.cons (.var 3) (.cons (.tup .nil) (.cons (.int 2) .nil)))) (.tup (.cons (.tup .nil) .nil))) (.cmp .ne (.call i_suspects (.cons (.var 3) (.cons (.tup .nil) (.cons (.int 2) .nil)))) (.tup .nil))) (.cons (.ret .fa) .nil) .nil) (.cons .cont .nil)) .nil) (.cons (.set (.name 5) (.call i_explanations (.cons (.var 3) (.cons (.tup .nil) (.cons (.int 2) .nil))))) (.cons (.set (.name 6) (.ix (.pk 5) (.call i__law_draw (.cons (.var 0) (.cons (.var 1) (.cons (.bi .len (.pk 5)) .nil)))))) (.cons (.set (.name 7) (.comp (.ix (.pk 4) (.call i__law_draw (.cons (.var 0) (.cons (.var 1) (.cons (.bi .len (.pk 4)) .nil))))) (.name 10) (.range1 (.int 6)) .yes [10])) (.cons (.set (.name 8) (.bi .tuple (.comp (.tup (.cons (.var 12) (.cons (.call i_fails (.cons (.var 3) (.cons (.var 6) (.cons (.var 12) .nil)))) .nil))) (.name 12) (.seq (.var 7)) .yes [12]))) (.cons (.setM 9 (.lst .nil)) (.cons (.for_ (.name 10) (.range1 (.int 7)) (.cons (.set (.name 11) (.call i_explanations (.cons (.var 3) (.cons (.sl (.pk 8) .no (.so (.pk 10))) (.cons (.int 2) .nil))))) (.cons (.ife (.or (.cmp .notin (.pk 6) (.pk 11)) (.cmp .ne (.comp (.var 15) (.name 15) (.seq (.var 11)) (.one (.cmp .notin (.pk 15) (.pk 5))) [15]) (.lst .nil))) (.cons (.ret .fa) .nil) .nil) (.cons (.set (.name 5) (.var 11)) (.cons (.app 9 (.bi .len (.pk 11))) .nil))))) (.cons (.ife (.or (.not (.val (.call i_is_hypothesis (.cons (.var 3) (.cons (.var 6) .nil))))) (.cmp .lt (.ix (.pk 9) (.neg (.int 1))) (.int 1))) (.cons (.ret .fa) .nil) .nil) (.cons (.for_ (.tup (.cons (.name 12) (.cons (.name 13) .nil))) (.seq (.var 8)) (.cons (.ife (.cmp .ne (.comp (.var 15) (.name 15) (.seq (.var 5)) (.one (.cmp .ne (.call i_fails (.cons (.var 3) (.cons (.var 15) (.cons (.var 12) .nil)))) (.pk 13))) [15]) (.lst .nil)) (.cons (.ret .fa) .nil) .nil) .nil)) (.cons (.set (.name 12) (.ix (.pk 4) (.call i__law_draw (.cons (.var 0) (.cons (.var 1) (.cons (.bi .len (.pk 4)) .nil)))))) (.cons (.set (.name 14) (.comp (.call i_explanations (.cons (.var 3) (.cons (.op .add (.pk 8) (.tup (.cons (.tup (.cons (.var 12) (.cons (.var 13) .nil))) .nil))) (.cons (.int 2) .nil)))) (.name 13) (.seq (.tup (.cons .tr (.cons .fa .nil)))) .yes [13])) (.cons (.ife (.cmp .ne (.bi .tuple (.bi .sorted (.op .add (.ix (.pk 14) (.int 0)) (.ix (.pk 14) (.int 1))))) (.pk 5)) (.cons (.ret .fa) .nil) .nil) (.cons (.ife (.not (.val (.call i__law_sides (.cons (.var 3) (.cons (.var 8) (.cons (.var 5) (.cons (.var 6) .nil))))))) (.cons (.ret .fa) .nil) .nil) .nil)))))))))))))))) (.cons (.ret .tr) .nil))⟩
/-- _law_model(script, town, many, values, rules); slots script, town, many, values, rules, sizes, some, kept, k, one_here -/
def f_law_model_k24 (i__law_combination i__law_draw : Nat) : Fn := ⟨5, 10, .cons (.set (.name 5) (.bi .tuple (.comp (.op .add (.int 2) (.call i__law_draw (.cons (.var 0) (.cons (.var 1) (.cons (.op .sub (.pk 3) (.int 1)) .nil))))) (.name 8) (.range1 (.op .add (.int 2) (.call i__law_draw (.cons (.var 0) (.cons (.var 1) (.cons (.op .sub (.pk 2) (.int 1)) .nil)))))) .yes [8]))) (.cons (.set (.name 6) (.comp (.call i__law_combination (.cons (.var 0) (.cons (.var 1) (.cons (.var 5) (.cons (.int 3) .nil))))) (.name 8) (.range1 (.call i__law_draw (.cons (.var 0) (.cons (.var 1) (.cons (.op .add (.pk 4) (.int 1)) .nil))))) .yes [8])) (.cons (.set (.name 7) (.comp (.var 9) (.name 9) (.seq (.var 6)) (.one (.or (.cmp .gt (.bi .len (.pk 9)) (.int 1)) (.cmp .eq (.call i__law_draw (.cons (.var 0) (.cons (.var 1) (.cons (.int 3) .nil)))) (.int 0)))) [9])) (.cons (.ret (.tup (.cons (.var 5) (.cons (.bi .tuple (.bi .sset (.pk 7))) .nil)))) .nil)))⟩
/-- _law_first(tests, suite_here, most_here); slots tests, suite_here, most_here, rows, one_here, part, at, whole, other_here, some, full, test -/
def f_law_first (i__law_fails i__law_hypotheses : Nat) : Fn := ⟨3, 12, .cons (.setM 3 (.lst .nil)) (.cons (.for_ (.name 4) (.seq (.call i__law_hypotheses (.cons (.var 0) (.cons (.var 2) .nil)))) (.cons (.set (.name 5) (.comp (.call i__law_fails (.cons (.var 4) (.cons (.var 11) .nil))) (.name 11) (.seq (.var 1)) .yes [11])) (.cons (.app 3 (.tup (.cons (.var 4) (.cons (.var 5) (.cons (.comp (.call i__law_fails (.cons (.var 4) (.cons (.var 11) .nil))) (.name 11) (.seq (.var 0)) .yes [11]) .nil))))) .nil))) (.frz 3 (.cons (.for_ (.tup (.cons (.name 6) (.cons (.tup (.cons (.name 4) (.cons (.name 5) (.cons (.name 7) .nil)))) .nil))) (.enum (.var 3)) (.cons (.for_ (.tup (.cons (.name 8) (.cons (.name 9) (.cons (.name 10) .nil)))) (.seq (.sl (.pk 3) (.so (.op .add (.pk 6) (.int 1))) .no)) (.cons (.ife (.and (.cmp .eq (.pk 5) (.pk 9)) (.cmp .ne (.pk 7) (.pk 10))) (.cons (.ret (.tup (.cons (.var 4) (.cons (.var 8) .nil)))) .nil) .nil) .nil)) .nil)) (.cons (.ret .none) .nil))))⟩
/-- check_asked(model, suite, most); slots model, suite, most -/
def f_check_asked (i_check_number i_check_small i_check_suite : Nat) : Fn := ⟨3, 3, .cons (.expr (.call i_check_small (.cons (.var 0) .nil))) (.cons (.expr (.call i_check_suite (.cons (.var 0) (.cons (.var 1) .nil)))) (.cons (.expr (.call i_check_number (.cons (.var 2) .nil))) .nil))⟩
/-- outcome(hypothesis, tests); slots hypothesis, tests, test -/
def f_outcome (i_does_fail : Nat) : Fn := ⟨2, 3, .cons (.ret (.bi .tuple (.comp (.call i_does_fail (.cons (.var 0) (.cons (.var 2) .nil))) (.name 2) (.seq (.var 1)) .yes [2]))) .nil⟩
/-- first_confused(model, suite, most); slots model, suite, most, tests, groups, hypotheses, keys, hypothesis, key, own, others, other, full -/
def f_first_confused (i_all_hypotheses i_all_tests i_outcome : Nat) : Fn := ⟨3, 13, .cons (.par 3 4 false true (.call i_all_tests (.cons (.var 0) .nil)) .dnew) (.cons (.set (.name 5) (.call i_all_hypotheses (.cons (.var 0) (.cons (.var 2) .nil)))) (.cons (.set (.name 6) (.comp (.call i_outcome (.cons (.var 7) (.cons (.var 1) .nil))) (.name 7) (.seq (.var 5)) .yes [7])) (.cons (.for_ (.tup (.cons (.name 7) (.cons (.name 8) .nil))) (.zip (.var 5) (.var 6)) (.cons (.dput 4 (.var 8) (.op .add (.get2 (.pk 4) (.pk 8) (.lst .nil)) (.lst (.cons (.tup (.cons (.var 7) (.cons (.call i_outcome (.cons (.var 7) (.cons (.var 3) .nil))) .nil))) .nil)))) .nil)) (.cons (.for_ (.tup (.cons (.name 7) (.cons (.name 8) .nil))) (.zip (.var 5) (.var 6)) (.cons (.set (.name 9) (.call i_outcome (.cons (.var 7) (.cons (.var 3) .nil)))) (.cons (.set (.name 10) (.comp (.var 11) (.tup (.cons (.name 11) (.cons (.name 12) .nil))) (.seq (.ix (.pk 4) (.pk 8))) (.one (.and (.cmp .gt (.pk 11) (.pk 7)) (.cmp .ne (.pk 12) (.pk 9)))) [11, 12])) (.cons (.ife (.val (.pk 10)) (.cons (.ret (.tup (.cons (.var 7) (.cons (.ix (.pk 10) (.int 0)) .nil)))) .nil) .nil) .nil)))) (.cons (.ret .none) .nil)))))⟩
/-- confused(model, suite, most); slots model, suite, most -/
def f_confused (i_check_asked i_first_confused : Nat) : Fn := ⟨3, 3, .cons (.expr (.call i_check_asked (.cons (.var 0) (.cons (.var 1) (.cons (.var 2) .nil))))) (.cons (.ret (.call i_first_confused (.cons (.var 0) (.cons (.var 1) (.cons (.var 2) .nil))))) .nil)⟩
/-- is_locating(model, suite, most); slots model, suite, most -/
def f_is_locating (i_check_asked i_first_confused : Nat) : Fn := ⟨3, 3, .cons (.expr (.call i_check_asked (.cons (.var 0) (.cons (.var 1) (.cons (.var 2) .nil))))) (.cons (.ret (.op .isN (.call i_first_confused (.cons (.var 0) (.cons (.var 1) (.cons (.var 2) .nil)))) .none)) .nil)⟩
/-- separating_test(model, one, other); slots model, one, other, test -/
def f_separating_test (i_all_tests i_check_hypothesis i_check_small i_does_fail : Nat) : Fn := ⟨3, 4, .cons (.expr (.call i_check_small (.cons (.var 0) .nil))) (.cons (.expr (.call i_check_hypothesis (.cons (.var 0) (.cons (.var 1) .nil)))) (.cons (.expr (.call i_check_hypothesis (.cons (.var 0) (.cons (.var 2) .nil)))) (.cons (.for_ (.name 3) (.seq (.call i_all_tests (.cons (.var 0) .nil))) (.cons (.ife (.cmp .ne (.call i_does_fail (.cons (.var 1) (.cons (.var 3) .nil))) (.call i_does_fail (.cons (.var 2) (.cons (.var 3) .nil)))) (.cons (.ret (.var 3)) .nil) .nil) .nil)) (.cons (.ret .none) .nil))))⟩
/-- law(script); slots script, town, k, model_here, tests, some, j, one_here, other_here, good, due, suite_here, most_here, found, test -/
def f_law_k24 (i__law_begun i__law_draw i__law_errors i__law_fails i__law_first i__law_hypotheses i__law_is i__law_small i__law_suite i__law_tests i_confused i_is_locating i_separating_test : Nat) : Fn := ⟨1, 15, .cons (.set (.name 1) (.call i__law_begun .nil)) (.cons (.for_ (.name 2) (.range1 (.int 3)) (.cons (.set (.name 3) (.call i__law_small (.cons (.var 0) (.cons (.var 1) .nil)))) (.cons (.set (.name 4) (.call i__law_tests (.cons (.var 3) .nil))) (.cons (.set (.name 5) (.call i__law_hypotheses (.cons (.var 4) (.cons (.int 2) .nil)))) (.cons (.for_ (.name 6) (.range1 (.int 4)) (.cons (.set (.name 7) (.ix (.pk 5) (.call i__law_draw (.cons (.var 0) (.cons (.var 1) (.cons (.bi .len (.pk 5)) .nil)))))) (.cons (.set (.name 8) (.ix (.pk 5) (.call i__law_draw (.cons (.var 0) (.cons (.var 1) (.cons (.bi .len (.pk 5)) .nil)))))) (.cons (.set (.name 9) (.comp (.var 14) (.name 14) (.seq (.var 4)) (.one (.cmp .ne (.call i__law_fails (.cons (.var 7) (.cons (.var 14) .nil))) (.call i__law_fails (.cons (.var 8) (.cons (.var 14) .nil))))) [14])) (.cons (.set (.name 10) (.ite (.cmp .ne (.pk 9) (.lst .nil)) (.ix (.pk 9) (.int 0)) .none)) (.cons (.ife (.cmp .ne (.call i_separating_test (appEs (.cons (.var 3) .nil) (.cons (.var 7) (.cons (.var 8) .nil)))) (.pk 10)) (.cons (.ret .fa) .nil) .nil) .nil)))))) (.cons (.set (.name 11) (.call i__law_suite (.cons (.var 0) (.cons (.var 1) (.cons (.var 4) (.cons (.int 8) .nil)))))) (.cons (.set (.name 12) (.ite (.cmp .lt (.bi .len (.pk 5)) (.int 150)) (.call i__law_draw (.cons (.var 0) (.cons (.var 1) (.cons (.int 3) .nil)))) (.call i__law_draw (.cons (.var 0) (.cons (.var 1) (.cons (.int 2) .nil)))))) (.cons (.set (.name 13) (.call i__law_first (.cons (.var 4) (.cons (.var 11) (.cons (.var 12) .nil))))) (.cons (.ife (.cmp .ne (.call i_confused (appEs (.cons (.var 3) .nil) (.cons (.var 11) (.cons (.var 12) .nil)))) (.pk 13)) (.cons (.ret .fa) .nil) .nil) (.cons (.ife (.not (.val (.call i__law_is (.cons (.call i_is_locating (appEs (.cons (.var 3) .nil) (.cons (.var 11) (.cons (.var 12) .nil)))) (.cons (.op .isN (.pk 13) .none) .nil))))) (.cons (.ret .fa) .nil) .nil) (.cons (.ife (.not (.val (.call i__law_errors (.cons (.var 3) (.cons (.var 11) .nil))))) (.cons (.ret .fa) .nil) .nil) .nil))))))))))) (.cons (.ret .tr) .nil))⟩
/-- _law_best(tests, some); slots tests, some, best, test, many, worse, one -/
def f_law_best (i__law_fails : Nat) : Fn := ⟨2, 7, .cons (.set (.name 2) .none) (.cons (.for_ (.name 3) (.seq (.var 0)) (.cons (.set (.name 4) (.bi .len (.comp (.var 6) (.name 6) (.seq (.var 1)) (.one (.val (.call i__law_fails (.cons (.var 6) (.cons (.var 3) .nil))))) [6]))) (.cons (.set (.name 5) (.max2 (.pk 4) (.op .sub (.bi .len (.pk 1)) (.pk 4)))) (.cons (.ife (.and (.cmp .lt (.pk 5) (.bi .len (.pk 1))) (.or (.cmp .isN (.pk 2) .none) (.cmp .lt (.tup (.cons (.var 5) (.cons (.var 3) .nil))) (.pk 2)))) (.cons (.set (.name 2) (.tup (.cons (.var 5) (.cons (.var 3) .nil)))) .nil) .nil) .nil)))) (.cons (.ret (.ite (.cmp .isN (.pk 2) .none) .none (.ix (.pk 2) (.int 1)))) .nil))⟩
/-- chosen_test(model, some); slots model, some, best, test, failing, worse, hypothesis -/
def f_chosen_test (i_all_tests i_does_fail : Nat) : Fn := ⟨2, 7, .cons (.set (.name 2) .none) (.cons (.for_ (.name 3) (.seq (.call i_all_tests (.cons (.var 0) .nil))) (.cons (.set (.name 4) (.bi .len (.comp (.var 6) (.name 6) (.seq (.var 1)) (.one (.val (.call i_does_fail (.cons (.var 6) (.cons (.var 3) .nil))))) [6]))) (.cons (.set (.name 5) (.max2 (.pk 4) (.op .sub (.bi .len (.pk 1)) (.pk 4)))) (.cons (.ife (.and (.cmp .lt (.pk 5) (.bi .len (.pk 1))) (.or (.cmp .isN (.pk 2) .none) (.cmp .lt (.pk 5) (.ix (.pk 2) (.int 0))))) (.cons (.set (.name 2) (.tup (.cons (.var 5) (.cons (.var 3) .nil)))) .nil) .nil) .nil)))) (.cons (.ret (.ite (.cmp .isN (.pk 2) .none) .none (.ix (.pk 2) (.int 1)))) .nil))⟩
/-- best_test(model, results, most); slots model, results, most -/
def f_best_test (i_chosen_test i_explained : Nat) : Fn := ⟨3, 3, .cons (.ret (.call i_chosen_test (.cons (.var 0) (.cons (.call i_explained (.cons (.var 0) (.cons (.var 1) (.cons (.var 2) .nil)))) .nil)))) .nil⟩
/-- locate(model, hypothesis, most); slots model, hypothesis, most, results, some, test, failed, one -/
def f_locate (i_check_hypothesis i_check_number i_check_small i_chosen_test i_does_fail i_explaining x_InvalidHypothesis : Nat) : Fn := ⟨3, 8, .cons (.expr (.call i_check_small (.cons (.var 0) .nil))) (.cons (.expr (.call i_check_number (.cons (.var 2) .nil))) (.cons (.expr (.call i_check_hypothesis (.cons (.var 0) (.cons (.var 1) .nil)))) (.cons (.ife (.cmp .gt (.bi .len (.pk 1)) (.pk 2)) (.cons (.raise x_InvalidHypothesis) .nil) .nil) (.cons (.par 3 4 false false (.tup .nil) (.call i_explaining (.cons (.var 0) (.cons (.tup .nil) (.cons (.var 2) .nil))))) (.cons (.set (.name 5) (.call i_chosen_test (.cons (.var 0) (.cons (.var 4) .nil)))) (.cons (.while_ (.and (.cmp .notN (.pk 5) .none) (.cmp .lt (.bi .len (.pk 3)) (.gint "LIMIT" 20))) (.cons (.set (.name 6) (.call i_does_fail (.cons (.var 1) (.cons (.var 5) .nil)))) (.cons (.set (.name 3) (.op .add (.pk 3) (.tup (.cons (.tup (.cons (.var 5) (.cons (.var 6) .nil))) .nil)))) (.cons (.set (.name 4) (.comp (.var 7) (.name 7) (.seq (.var 4)) (.one (.cmp .eq (.call i_does_fail (.cons (.var 7) (.cons (.var 5) .nil))) (.pk 6))) [7])) (.cons (.set (.name 5) (.call i_chosen_test (.cons (.var 0) (.cons (.var 4) .nil)))) .nil))))) (.cons (.ret (.var 3)) .nil)))))))⟩
/-- _law_outcome(model, hypothesis, suite); slots model, hypothesis, suite, test -/
def f_law_outcome (i_fails : Nat) : Fn := ⟨3, 4, .cons (.ret (.comp (.call i_fails (.cons (.var 0) (.cons (.var 1) (.cons (.var 3) .nil)))) (.name 3) (.seq (.var 2)) .yes [3])) .nil⟩
/-- _law_found(model, hidden, most); slots model, hidden, most, results, wrong, left, apart, test, failed, one -/
def f_law_found (i_best_test i_explanations i_fails i_locate i_separating_test : Nat) : Fn := ⟨3, 10, .cons (.set (.name 3) (.call i_locate (.cons (.var 0) (.cons (.var 1) (.cons (.var 2) .nil))))) (.cons (.set (.name 4) (.comp (.var 7) (.tup (.cons (.name 7) (.cons (.name 8) .nil))) (.seq (.var 3)) (.one (.cmp .ne (.call i_fails (.cons (.var 0) (.cons (.var 1) (.cons (.var 7) .nil)))) (.pk 8))) [7, 8])) (.cons (.ife (.or (.cmp .ne (.pk 4) (.lst .nil)) (.cmp .gt (.bi .len (.pk 3)) (.int 20))) (.cons (.ret .fa) .nil) .nil) (.cons (.set (.name 5) (.call i_explanations (.cons (.var 0) (.cons (.var 3) (.cons (.var 2) .nil))))) (.cons (.ife (.or (.cmp .notin (.pk 1) (.pk 5)) (.and (.cmp .lt (.bi .len (.pk 3)) (.int 20)) (.cmp .notN (.call i_best_test (.cons (.var 0) (.cons (.var 3) (.cons (.var 2) .nil)))) .none))) (.cons (.ret .fa) .nil) .nil) (.cons (.set (.name 6) (.comp (.var 9) (.name 9) (.seq (.var 5)) (.one (.cmp .notN (.call i_separating_test (.cons (.var 0) (.cons (.var 1) (.cons (.var 9) .nil)))) .none)) [9])) (.cons (.ret (.or (.op .eq (.bi .len (.pk 3)) (.int 20)) (.op .eq (.pk 6) (.lst .nil)))) .nil))))))⟩
/-- law(script); slots script, town, k, model, tests, suite, most, pair, one, other, test, rows, some, hidden, same -/
def f_law_k26 (i__law_begun i__law_draw i__law_found i__law_outcome i__law_small i__law_suite i_confused i_explanations i_fails i_is_locating i_separating_test i_valid_tests : Nat) : Fn := ⟨1, 15, .cons (.set (.name 1) (.call i__law_begun .nil)) (.cons (.for_ (.name 2) (.range1 (.int 2)) (.cons (.set (.name 3) (.call i__law_small (.cons (.var 0) (.cons (.var 1) .nil)))) (.cons (.set (.name 4) (.call i_valid_tests (.cons (.var 3) .nil))) (.cons (.set (.name 5) (.call i__law_suite (.cons (.var 0) (.cons (.var 1) (.cons (.bi .list (.pk 4)) (.cons (.int 6) .nil)))))) (.cons (.set (.name 6) (.ite (.cmp .lt (.bi .len (.pk 4)) (.int 10)) (.call i__law_draw (.cons (.var 0) (.cons (.var 1) (.cons (.int 3) .nil)))) (.call i__law_draw (.cons (.var 0) (.cons (.var 1) (.cons (.int 2) .nil)))))) (.cons (.set (.name 7) (.call i_confused (.cons (.var 3) (.cons (.var 5) (.cons (.var 6) .nil))))) (.cons (.ife (.cmp .ne (.call i_is_locating (.cons (.var 3) (.cons (.var 5) (.cons (.var 6) .nil)))) (.op .isN (.pk 7) .none)) (.cons (.ret .fa) .nil) .nil) (.cons (.ife (.cmp .notN (.pk 7) .none) (.cons (.set (.tup (.cons (.name 8) (.cons (.name 9) .nil))) (.var 7)) (.cons (.set (.name 10) (.call i_separating_test (.cons (.var 3) (.cons (.var 8) (.cons (.var 9) .nil))))) (.cons (.set (.name 11) (.call i__law_outcome (.cons (.var 3) (.cons (.var 9) (.cons (.var 5) .nil))))) (.cons (.ife (.or (.cmp .isN (.pk 10) .none) (.cmp .ne (.call i__law_outcome (.cons (.var 3) (.cons (.var 8) (.cons (.var 5) .nil)))) (.pk 11))) (.cons (.ret .fa) .nil) .nil) (.cons (.ife (.cmp .eq (.call i_fails (.cons (.var 3) (.cons (.var 8) (.cons (.var 10) .nil)))) (.call i_fails (.cons (.var 3) (.cons (.var 9) (.cons (.var 10) .nil))))) (.cons (.ret .fa) .nil) .nil) (.cons (.ife (.cmp .ne (.call i_separating_test (.cons (.var 3) (.cons (.var 9) (.cons (.var 8) .nil)))) (.pk 10)) (.cons (.ret .fa) .nil) .nil) (.cons (.ife (.or (.cmp .eq (.call i_confused (.cons (.var 3) (.cons (.op .add (.pk 5) (.tup (.cons (.var 10) .nil))) (.cons (.var 6) .nil)))) (.pk 7)) (.not (.val (.call i_is_locating (.cons (.var 3) (.cons (.var 4) (.cons (.var 6) .nil))))))) (.cons (.ret .fa) .nil) .nil) .nil))))))) .nil) (.cons (.ife (.and (.val (.call i_is_locating (.cons (.var 3) (.cons (.sl (.pk 5) (.so (.int 1)) .no) (.cons (.var 6) .nil))))) (.cmp .notN (.pk 7) .none)) (.cons (.ret .fa) .nil) .nil) (.cons (.ife (.and (.cmp .gt (.pk 6) (.int 0)) (.and (.val (.call i_is_locating (.cons (.var 3) (.cons (.var 5) (.cons (.var 6) .nil))))) (.not (.val (.call i_is_locating (.cons (.var 3) (.cons (.var 5) (.cons (.op .sub (.pk 6) (.int 1)) .nil)))))))) (.cons (.ret .fa) .nil) .nil) (.cons (.set (.name 12) (.call i_explanations (.cons (.var 3) (.cons (.tup .nil) (.cons (.var 6) .nil))))) (.cons (.par 13 9 false false (.ix (.pk 12) (.call i__law_draw (.cons (.var 0) (.cons (.var 1) (.cons (.bi .len (.pk 12)) .nil))))) (.ix (.pk 12) (.call i__law_draw (.cons (.var 0) (.cons (.var 1) (.cons (.bi .len (.pk 12)) .nil)))))) (.cons (.set (.name 14) (.op .eq (.call i__law_outcome (.cons (.var 3) (.cons (.var 13) (.cons (.var 4) .nil)))) (.call i__law_outcome (.cons (.var 3) (.cons (.var 9) (.cons (.var 4) .nil)))))) (.cons (.ife (.or (.cmp .ne (.op .isN (.call i_separating_test (.cons (.var 3) (.cons (.var 13) (.cons (.var 9) .nil)))) .none) (.pk 14)) (.not (.val (.call i__law_found (.cons (.var 3) (.cons (.var 13) (.cons (.var 6) .nil))))))) (.cons (.ret .fa) .nil) .nil) .nil)))))))))))))) (.cons (.ret .tr) .nil))⟩
/-- _law_operation(script, town, state); slots script, town, state, model_here, suite, results, name, test, combination, many, size -/
def f_law_operation (i__law_combination i__law_draw : Nat) : Fn := ⟨3, 11, .cons (.set (.tup (.cons (.name 3) (.cons (.name 4) (.cons (.name 5) .nil)))) (.var 2)) (.cons (.set (.name 6) (.ix (.lst (.cons (.str "add") (.cons (.str "add") (.cons (.str "add") (.cons (.str "record") (.cons (.str "record") (.cons (.str "forbid") (.cons (.str "allow") (.cons (.str "remove") .nil))))))))) (.call i__law_draw (.cons (.var 0) (.cons (.var 1) (.cons (.int 8) .nil)))))) (.cons (.set (.name 7) (.bi .tuple (.comp (.call i__law_draw (.cons (.var 0) (.cons (.var 1) (.cons (.var 10) .nil)))) (.name 10) (.seq (.ix (.pk 3) (.int 0))) .yes [10]))) (.cons (.set (.name 7) (.ite (.cmp .eq (.call i__law_draw (.cons (.var 0) (.cons (.var 1) (.cons (.int 12) .nil)))) (.int 0)) (.sl (.pk 7) (.so (.int 1)) .no) (.var 7))) (.cons (.ife (.cmp .eq (.pk 6) (.str "add")) (.cons (.ret (.tup (.cons (.var 6) (.cons (.tup (.cons (.var 7) .nil)) .nil)))) .nil) .nil) (.cons (.ife (.cmp .eq (.pk 6) (.str "record")) (.cons (.ret (.tup (.cons (.var 6) (.cons (.tup (.cons (.var 7) (.cons (.ite (.cmp .gt (.call i__law_draw (.cons (.var 0) (.cons (.var 1) (.cons (.int 10) .nil)))) (.int 0)) (.op .eq (.call i__law_draw (.cons (.var 0) (.cons (.var 1) (.cons (.int 2) .nil)))) (.int 0)) .none) .nil))) .nil)))) .nil) .nil) (.cons (.ife (.cmp .eq (.pk 6) (.str "forbid")) (.cons (.set (.name 8) (.call i__law_combination (.cons (.var 0) (.cons (.var 1) (.cons (.ix (.pk 3) (.int 0)) (.cons (.int 3) .nil)))))) (.cons (.ret (.tup (.cons (.var 6) (.cons (.tup (.cons (.ite (.cmp .gt (.call i__law_draw (.cons (.var 0) (.cons (.var 1) (.cons (.int 10) .nil)))) (.int 0)) (.var 8) (.tup .nil)) .nil)) .nil)))) .nil)) .nil) (.cons (.set (.name 9) (.ite (.cmp .eq (.pk 6) (.str "remove")) (.bi .len (.pk 4)) (.bi .len (.ix (.pk 3) (.int 1))))) (.cons (.ret (.tup (.cons (.var 6) (.cons (.tup (.cons (.ite (.cmp .gt (.call i__law_draw (.cons (.var 0) (.cons (.var 1) (.cons (.int 10) .nil)))) (.int 0)) (.call i__law_draw (.cons (.var 0) (.cons (.var 1) (.cons (.op .add (.pk 9) (.int 1)) .nil)))) (.neg (.int 1))) .nil)) .nil)))) .nil))))))))⟩
/-- _law_edited(state, name, value); slots state, name, value, model_here, suite, results, rules, test, one, failed -/
def f_law_edited (i__law_has : Nat) : Fn := ⟨3, 10, .cons (.set (.tup (.cons (.name 3) (.cons (.name 4) (.cons (.name 5) .nil)))) (.var 0)) (.cons (.ife (.cmp .eq (.pk 1) (.str "remove")) (.cons (.ret (.ite (.chain .le .lt (.int 0) (.pk 2) (.bi .len (.pk 4))) (.tup (.cons (.var 3) (.cons (.op .add (.sl (.pk 4) .no (.so (.pk 2))) (.sl (.pk 4) (.so (.op .add (.pk 2) (.int 1))) .no)) (.cons (.var 5) .nil)))) (.tup (.cons (.str "index") .nil)))) .nil) .nil) (.cons (.ife (.cmp .eq (.pk 1) (.str "allow")) (.cons (.set (.name 6) (.op .add (.sl (.ix (.pk 3) (.int 1)) .no (.so (.pk 2))) (.sl (.ix (.pk 3) (.int 1)) (.so (.op .add (.pk 2) (.int 1))) .no))) (.cons (.ret (.ite (.chain .le .lt (.int 0) (.pk 2) (.bi .len (.ix (.pk 3) (.int 1)))) (.tup (.cons (.tup (.cons (.ix (.pk 3) (.int 0)) (.cons (.var 6) .nil))) (.cons (.var 4) (.cons (.var 5) .nil)))) (.tup (.cons (.str "index") .nil)))) .nil)) .nil) (.cons (.ife (.cmp .eq (.pk 2) (.tup .nil)) (.cons (.ret (.tup (.cons (.str "combination") .nil))) .nil) .nil) (.cons (.ife (.cmp .isin (.pk 2) (.ix (.pk 3) (.int 1))) (.cons (.ret (.tup (.cons (.str "same") .nil))) .nil) .nil) (.cons (.ife (.cmp .ne (.comp (.int 1) (.name 7) (.seq (.op .add (.bi .list (.pk 4)) (.comp (.var 8) (.tup (.cons (.name 8) (.cons (.name 9) .nil))) (.seq (.var 5)) .yes [8, 9]))) (.one (.val (.call i__law_has (.cons (.var 7) (.cons (.var 2) .nil))))) [7]) (.lst .nil)) (.cons (.ret (.tup (.cons (.str "use") .nil))) .nil) .nil) (.cons (.set (.name 6) (.bi .tuple (.bi .sorted (.op .add (.ix (.pk 3) (.int 1)) (.tup (.cons (.var 2) .nil)))))) (.cons (.ret (.ite (.cmp .lt (.bi .len (.pk 6)) (.int 9)) (.tup (.cons (.tup (.cons (.ix (.pk 3) (.int 0)) (.cons (.var 6) .nil))) (.cons (.var 4) (.cons (.var 5) .nil)))) (.tup (.cons (.str "many") .nil)))) .nil)))))))⟩
/-- _law_valid(model_here, test); slots model_here, test, rule -/
def f_law_valid (i__law_has : Nat) : Fn := ⟨2, 3, .cons (.ife (.cmp .ne (.bi .len (.pk 1)) (.bi .len (.ix (.pk 0) (.int 0)))) (.cons (.ret .fa) .nil) .nil) (.cons (.ret (.op .eq (.comp (.int 1) (.name 2) (.seq (.ix (.pk 0) (.int 1))) (.one (.val (.call i__law_has (.cons (.var 1) (.cons (.var 2) .nil))))) [2]) (.lst .nil))) .nil)⟩
/-- _law_plain(state, name, arguments); slots state, name, arguments, model_here, suite, results -/
def f_law_plain (i__law_edited i__law_valid : Nat) : Fn := ⟨3, 6, .cons (.set (.tup (.cons (.name 3) (.cons (.name 4) (.cons (.name 5) .nil)))) (.var 0)) (.cons (.ife (.cmp .isin (.pk 1) (.tup (.cons (.str "remove") (.cons (.str "allow") (.cons (.str "forbid") .nil))))) (.cons (.ret (.call i__law_edited (.cons (.var 0) (.cons (.var 1) (.cons (.ix (.pk 2) (.int 0)) .nil))))) .nil) .nil) (.cons (.ife (.not (.val (.call i__law_valid (.cons (.var 3) (.cons (.ix (.pk 2) (.int 0)) .nil))))) (.cons (.ret (.tup (.cons (.str "test") .nil))) .nil) .nil) (.cons (.ife (.cmp .eq (.pk 1) (.str "add")) (.cons (.ret (.ite (.cmp .lt (.bi .len (.pk 4)) (.int 40)) (.tup (.cons (.var 3) (.cons (.op .add (.pk 4) (.pk 2)) (.cons (.var 5) .nil)))) (.tup (.cons (.str "many") .nil)))) .nil) .nil) (.cons (.ife (.cmp .isN (.ix (.pk 2) (.int 1)) .none) (.cons (.ret (.tup (.cons (.str "results") .nil))) .nil) .nil) (.cons (.ife (.cmp .isin (.tup (.cons (.ix (.pk 2) (.int 0)) (.cons (.not (.ix (.pk 2) (.int 1))) .nil))) (.pk 5)) (.cons (.ret (.tup (.cons (.str "contradiction") .nil))) .nil) .nil) (.cons (.ret (.ite (.cmp .lt (.bi .len (.pk 5)) (.int 20)) (.tup (.cons (.var 3) (.cons (.var 4) (.cons (.op .add (.pk 5) (.tup (.cons (.var 2) .nil))) .nil)))) (.tup (.cons (.str "many") .nil)))) .nil))))))⟩
/-- check_text(text); slots text -/
def f_check_text (x_InvalidText : Nat) : Fn := ⟨1, 1, .cons (.ife (.not (.val (.isi .str (.pk 0)))) (.cons (.raise x_InvalidText) .nil) .nil) .nil⟩
/-- parse_results(model, text); slots model, text, found, row, one -/
def f_parse_results (i_check_model i_is_result i_read_numbers i_rows_of x_InvalidText : Nat) : Fn := ⟨2, 5, .cons (.expr (.call i_check_model (.cons (.var 0) .nil))) (.cons (.setM 2 (.lst .nil)) (.cons (.for_ (.name 3) (.seq (.call i_rows_of (.cons (.var 1) .nil))) (.cons (.ife (.cmp .notin (.sl (.pk 3) .no (.so (.int 5))) (.tup (.cons (.str "fail ") (.cons (.str "pass ") .nil)))) (.cons (.raise x_InvalidText) .nil) .nil) (.cons (.app 2 (.tup (.cons (.call i_read_numbers (.cons (.sl (.pk 3) (.so (.int 5)) .no) .nil)) (.cons (.op .eq (.sl (.pk 3) .no (.so (.int 5))) (.str "fail ")) .nil)))) .nil))) (.frz 2 (.cons (.ife (.or (.cmp .gt (.bi .len (.pk 2)) (.int 20)) (.not (.val (.bi .all (.comp (.call i_is_result (.cons (.var 0) (.cons (.var 4) .nil))) (.name 4) (.seq (.var 2)) .yes [4]))))) (.cons (.raise x_InvalidText) .nil) .nil) (.cons (.ret (.bi .tuple (.pk 2))) .nil)))))⟩
/-- parse_model(text); slots text, rows, model, row -/
def f_parse_model (i_is_model i_read_numbers i_read_pairs i_rows_of x_InvalidText : Nat) : Fn := ⟨1, 4, .cons (.set (.name 1) (.call i_rows_of (.cons (.var 0) .nil))) (.cons (.ife (.or (.cmp .eq (.pk 1) (.lst .nil)) (.or (.cmp .ne (.sl (.ix (.pk 1) (.int 0)) .no (.so (.int 6))) (.str "sizes ")) (.not (.val (.bi .all (.comp (.op .eq (.sl (.pk 3) .no (.so (.int 4))) (.str "not ")) (.name 3) (.seq (.sl (.pk 1) (.so (.int 1)) .no)) .yes [3])))))) (.cons (.raise x_InvalidText) .nil) .nil) (.cons (.set (.name 2) (.tup (.cons (.call i_read_numbers (.cons (.sl (.ix (.pk 1) (.int 0)) (.so (.int 6)) .no) .nil)) (.cons (.bi .tuple (.comp (.call i_read_pairs (.cons (.sl (.pk 3) (.so (.int 4)) .no) .nil)) (.name 3) (.seq (.sl (.pk 1) (.so (.int 1)) .no)) .yes [3])) .nil)))) (.cons (.ife (.not (.val (.call i_is_model (.cons (.var 2) .nil)))) (.cons (.raise x_InvalidText) .nil) .nil) (.cons (.ret (.var 2)) .nil))))⟩
/-- parse_combination(model, text); slots model, text, found -/
def f_parse_combination (i_check_model i_check_text i_is_combination_of i_read_pairs x_InvalidText : Nat) : Fn := ⟨2, 3, .cons (.expr (.call i_check_model (.cons (.var 0) .nil))) (.cons (.expr (.call i_check_text (.cons (.var 1) .nil))) (.cons (.set (.name 2) (.call i_read_pairs (.cons (.var 1) .nil))) (.cons (.ife (.not (.val (.call i_is_combination_of (.cons (.ix (.pk 0) (.int 0)) (.cons (.var 2) .nil))))) (.cons (.raise x_InvalidText) .nil) .nil) (.cons (.ret (.var 2)) .nil))))⟩
/-- _law_by_hand(); slots odds, odd, model_here -/
def f_law_by_hand (i_parse_combination i_parse_model i_parse_results : Nat) : Fn := ⟨0, 3, .cons (.set (.name 0) (.lst (.cons (.str "") (.cons (.str "sizes 2\n") (.cons (.str "sizes 2 2") (.cons (.str "sizes 2  2\n") (.cons (.str "sizes 2 2\nnot \n") (.cons (.str "sizes 2 2\n\n") (.cons (.str "size 2 2\n") (.cons .none .nil)))))))))) (.cons (.set (.name 0) (.op .add (.pk 0) (.lst (.cons (.str "sizes 2 5\n") (.cons (.str "sizes 02 2\n") (.cons (.str "sizes 2 2\nnot 0=0 0=1\n") (.cons (.str "sizes 2 2\nnot 1=0 0=0\n") (.cons (.int 3) .nil)))))))) (.cons (.set (.name 0) (.op .add (.pk 0) (.lst (.cons (.str "sizes 2 2\nnot 0=0\nnot 0=0\n") (.cons (.str "sizes 2 2\n not 0=0\n") (.cons (.str "sizes 2 2\nnot 0=2\n") .nil)))))) (.cons (.for_ (.name 1) (.seq (.op .add (.pk 0) (.lst (.cons (.lst (.cons (.str "sizes 2 2\n") .nil)) (.cons (.str "sizes\n") .nil))))) (.cons (.ife (.cmp .ne (.lam resL (.call i_parse_model (.cons (.var 1) .nil))) (.tup (.cons (.str "text") .nil))) (.cons (.ret .fa) .nil) .nil) .nil)) (.cons (.set (.name 2) (.tup (.cons (.tup (.cons (.int 2) (.cons (.int 3) .nil))) (.cons (.tup (.cons (.tup (.cons (.tup (.cons (.int 0) (.cons (.int 1) .nil))) (.cons (.tup (.cons (.int 1) (.cons (.int 2) .nil))) .nil))) .nil)) .nil)))) (.cons (.for_ (.name 1) (.seq (.tup (.cons (.str "") (.cons (.str "0=0 ") (.cons (.str "0=0  1=0") (.cons (.str "1=0 0=0") (.cons (.str "0=2") (.cons (.str "2=0") (.cons (.str "0:0") (.cons (.str "0=") (.cons .none (.cons (.tup (.cons (.tup (.cons (.int 0) (.cons (.int 0) .nil))) .nil)) .nil)))))))))))) (.cons (.ife (.cmp .ne (.lam resL (.call i_parse_combination (.cons (.var 2) (.cons (.var 1) .nil)))) (.tup (.cons (.str "text") .nil))) (.cons (.ret .fa) .nil) .nil) .nil)) (.cons (.set (.name 0) (.lst (.cons (.str "pass 0 0") (.cons (.str "pass 1 2\n") (.cons (.str "pass 0\n") (.cons (.str "pass 0 0 \n") (.cons (.str "\n") (.cons (.str "Fail 0 0\n") (.cons (.str "fail 0 3\n") .nil))))))))) (.cons (.for_ (.name 1) (.seq (.op .add (.pk 0) (.lst (.cons (.op .mul (.str "pass 0 0\n") (.int 21)) (.cons .none .nil))))) (.cons (.ife (.cmp .ne (.lam resL (.call i_parse_results (.cons (.var 2) (.cons (.var 1) .nil)))) (.tup (.cons (.str "text") .nil))) (.cons (.ret .fa) .nil) .nil) .nil)) (.cons (.ife (.cmp .ne (.call i_parse_results (.cons (.var 2) (.cons (.str "") .nil))) (.tup .nil)) (.cons (.ret .fa) .nil) .nil) (.cons (.ife (.cmp .ne (.call i_parse_results (.cons (.var 2) (.cons (.op .mul (.str "pass 0 0\n") (.int 20)) .nil))) (.op .mul (.tup (.cons (.tup (.cons (.tup (.cons (.int 0) (.cons (.int 0) .nil))) (.cons .fa .nil))) .nil)) (.int 20))) (.cons (.ret .fa) .nil) .nil) (.cons (.ret (.op .eq (.call i_parse_model (.cons (.str "sizes 2 3\nnot 0=1 1=2\n") .nil)) (.pk 2))) .nil))))))))))⟩
/-- format_combination(model, combination); slots model, combination -/
def f_format_combination (i_check_combination i_check_model i_combination_text : Nat) : Fn := ⟨2, 2, .cons (.expr (.call i_check_model (.cons (.var 0) .nil))) (.cons (.expr (.call i_check_combination (.cons (.var 0) (.cons (.var 1) .nil)))) (.cons (.ret (.call i_combination_text (.cons (.var 1) .nil))) .nil))⟩
/-- format_results(model, results); slots model, results -/
def f_format_results (i_check_model i_check_results i_results_text : Nat) : Fn := ⟨2, 2, .cons (.expr (.call i_check_model (.cons (.var 0) .nil))) (.cons (.expr (.call i_check_results (.cons (.var 0) (.cons (.var 1) .nil)))) (.cons (.ret (.call i_results_text (.cons (.var 1) .nil))) .nil))⟩
/-- format_model(model); slots model -/
def f_format_model (i_check_model i_model_text : Nat) : Fn := ⟨1, 1, .cons (.expr (.call i_check_model (.cons (.var 0) .nil))) (.cons (.ret (.call i_model_text (.cons (.var 0) .nil))) .nil)⟩
/-- _law_changed(script, town, text_here); slots script, town, text_here, at, sign, some -/
def f_law_changed (i__law_draw : Nat) : Fn := ⟨3, 6, .cons (.set (.name 3) (.call i__law_draw (.cons (.var 0) (.cons (.var 1) (.cons (.op .add (.bi .len (.pk 2)) (.int 1)) .nil))))) (.cons (.set (.name 4) (.ix (.str "0123456789= \nnotpasfil") (.call i__law_draw (.cons (.var 0) (.cons (.var 1) (.cons (.int 22) .nil)))))) (.cons (.setM 5 (.lst (.cons (.op .add (.op .add (.sl (.pk 2) .no (.so (.pk 3))) (.pk 4)) (.sl (.pk 2) (.so (.pk 3)) .no)) (.cons (.op .add (.sl (.pk 2) .no (.so (.pk 3))) (.sl (.pk 2) (.so (.op .add (.pk 3) (.int 1))) .no)) .nil)))) (.cons (.app 5 (.op .add (.op .add (.sl (.pk 2) .no (.so (.pk 3))) (.pk 4)) (.sl (.pk 2) (.so (.op .add (.pk 3) (.int 1))) .no))) (.cons (.ret (.ix (.pk 5) (.call i__law_draw (.cons (.var 0) (.cons (.var 1) (.cons (.int 3) .nil)))))) .nil))))⟩
/-- law(script); slots script, town, model_here, combination_here, tests, results_here, one, two, three, k, some, result, text_here -/
def f_law_k32 (i__law_begun i__law_by_hand i__law_changed i__law_combination i__law_lines i__law_model i__law_pairs i__law_results i__law_tests i__law_text i_format_combination i_format_model i_format_results i_parse_combination i_parse_model i_parse_results : Nat) : Fn := ⟨1, 13, .cons (.set (.name 1) (.call i__law_begun .nil)) (.cons (.set (.name 2) (.call i__law_model (.cons (.var 0) (.cons (.var 1) (.cons (.int 5) (.cons (.int 4) (.cons (.int 3) .nil))))))) (.cons (.set (.name 3) (.call i__law_combination (.cons (.var 0) (.cons (.var 1) (.cons (.ix (.pk 2) (.int 0)) (.cons (.int 4) .nil)))))) (.cons (.set (.name 4) (.call i__law_tests (.cons (.var 2) .nil))) (.cons (.set (.name 5) (.call i__law_results (.cons (.var 0) (.cons (.var 1) (.cons (.var 4) (.cons (.tup (.cons (.var 3) .nil)) (.cons (.int 5) .nil))))))) (.cons (.par 6 7 false false (.call i__law_text (.cons (.var 2) .nil)) (.call i__law_pairs (.cons (.var 3) .nil))) (.cons (.set (.name 8) (.call i__law_lines (.cons (.var 5) .nil))) (.cons (.ife (.or (.cmp .ne (.call i_format_model (.cons (.var 2) .nil)) (.pk 6)) (.cmp .ne (.call i_parse_model (.cons (.var 6) .nil)) (.pk 2))) (.cons (.ret .fa) .nil) .nil) (.cons (.ife (.cmp .ne (.call i_format_combination (appEs (.cons (.var 2) .nil) (.cons (.var 3) .nil))) (.pk 7)) (.cons (.ret .fa) .nil) .nil) (.cons (.ife (.cmp .ne (.call i_parse_combination (appEs (.cons (.var 2) .nil) (.cons (.var 7) .nil))) (.pk 3)) (.cons (.ret .fa) .nil) .nil) (.cons (.ife (.cmp .ne (.call i_format_results (appEs (.cons (.var 2) .nil) (.cons (.var 5) .nil))) (.pk 8)) (.cons (.ret .fa) .nil) .nil) (.cons (.ife (.cmp .ne (.call i_parse_results (appEs (.cons (.var 2) .nil) (.cons (.var 8) .nil))) (.pk 5)) (.cons (.ret .fa) .nil) .nil) (.cons (.for_ (.name 9) (.range1 (.int 6)) (.cons (.set (.name 10) (.comp (.call i__law_changed (.cons (.var 0) (.cons (.var 1) (.cons (.var 12) .nil)))) (.name 12) (.seq (.tup (.cons (.var 6) (.cons (.var 7) (.cons (.var 8) .nil))))) .yes [12])) (.cons (.set (.name 11) (.lam resL (.call i_parse_model (.cons (.ix (.pk 10) (.int 0)) .nil)))) (.cons (.ife (.and (.cmp .ne (.pk 11) (.tup (.cons (.str "text") .nil))) (.or (.cmp .ne (.ix (.pk 11) (.int 0)) (.str "returns")) (.cmp .ne (.call i__law_text (.cons (.ix (.pk 11) (.int 1)) .nil)) (.ix (.pk 10) (.int 0))))) (.cons (.ret .fa) .nil) .nil) (.cons (.set (.name 11) (.lam resL (.call i_parse_combination (.cons (.var 2) (.cons (.ix (.pk 10) (.int 1)) .nil))))) (.cons (.ife (.and (.cmp .ne (.pk 11) (.tup (.cons (.str "text") .nil))) (.or (.cmp .ne (.ix (.pk 11) (.int 0)) (.str "returns")) (.cmp .ne (.call i__law_pairs (.cons (.ix (.pk 11) (.int 1)) .nil)) (.ix (.pk 10) (.int 1))))) (.cons (.ret .fa) .nil) .nil) (.cons (.set (.name 11) (.lam resL (.call i_parse_results (.cons (.var 2) (.cons (.ix (.pk 10) (.int 2)) .nil))))) (.cons (.ife (.and (.cmp .ne (.pk 11) (.tup (.cons (.str "text") .nil))) (.or (.cmp .ne (.ix (.pk 11) (.int 0)) (.str "returns")) (.cmp .ne (.call i__law_lines (.cons (.ix (.pk 11) (.int 1)) .nil)) (.ix (.pk 10) (.int 2))))) (.cons (.ret .fa) .nil) .nil) .nil)))))))) (.cons (.setM 5 (.lst (.cons (.lam resL (.call i_format_model (.cons .none .nil))) .nil))) (.cons (.app 5 (.lam resL (.call i_format_combination (.cons (.var 2) (.cons (.tup .nil) .nil))))) (.cons (.app 5 (.lam resL (.call i_format_results (.cons (.var 2) (.cons .none .nil))))) (.cons (.app 5 (.lam resL (.call i_parse_results (.cons (.tup .nil) (.cons (.str "") .nil))))) (.cons (.ife (.cmp .ne (.pk 5) (.lst (.cons (.tup (.cons (.str "model") .nil)) (.cons (.tup (.cons (.str "combination") .nil)) (.cons (.tup (.cons (.str "results") .nil)) (.cons (.tup (.cons (.str "model") .nil)) .nil)))))) (.cons (.ret .fa) .nil) .nil) (.cons (.ret (.call i__law_by_hand .nil)) .nil))))))))))))))))))⟩
/-- _law_two(one, other); slots one, other, model, whole, top, below -/
def f_law_two (i_best_packing i_extend i_lower_bound i_smallest_suite i_targets : Nat) : Fn := ⟨2, 6, .cons (.set (.name 2) (.tup (.cons (.tup (.cons (.var 0) (.cons (.var 1) .nil))) (.cons (.tup .nil) .nil)))) (.cons (.ife (.or (.cmp .ne (.bi .len (.call i_targets (.cons (.var 2) (.cons (.int 1) .nil)))) (.op .add (.pk 0) (.pk 1))) (.cmp .ne (.bi .len (.call i_targets (.cons (.var 2) (.cons (.int 2) .nil)))) (.op .mul (.pk 0) (.pk 1)))) (.cons (.ret .fa) .nil) .nil) (.cons (.ife (.or (.cmp .ne (.bi .len (.call i_extend (.cons (.var 2) (.cons (.tup .nil) (.cons (.int 1) .nil))))) (.max2 (.pk 0) (.pk 1))) (.cmp .ne (.bi .len (.call i_extend (.cons (.var 2) (.cons (.tup .nil) (.cons (.int 2) .nil))))) (.op .mul (.pk 0) (.pk 1)))) (.cons (.ret .fa) .nil) .nil) (.cons (.ife (.or (.cmp .gt (.op .mul (.pk 0) (.pk 1)) (.int 16)) (.or (.cmp .ne (.call i_lower_bound (.cons (.var 2) (.cons (.int 1) .nil))) (.max2 (.pk 0) (.pk 1))) (.cmp .ne (.call i_lower_bound (.cons (.var 2) (.cons (.int 2) .nil))) (.op .mul (.pk 0) (.pk 1))))) (.cons (.ret .fa) .nil) .nil) (.cons (.set (.name 3) (.bi .sum (.comp (.var 4) (.tup (.cons (.name 4) (.cons (.name 5) .nil))) (.seq (.call i_best_packing (.cons (.var 2) (.cons (.int 2) .nil)))) .yes [4, 5]))) (.cons (.ret (.and (.op .eq (.pk 3) (.op .mul (.pk 0) (.pk 1))) (.op .eq (.bi .len (.call i_smallest_suite (.cons (.var 2) (.cons (.int 2) .nil)))) (.op .mul (.pk 0) (.pk 1))))) .nil)))))⟩
/-- _law_chain(many); slots many, rules, model, due, at, closed, to -/
def f_law_chain (i_extend i_hidden_rules i_is_possible i_valid_tests : Nat) : Fn := ⟨1, 7, .cons (.set (.name 1) (.bi .tuple (.comp (.tup (.cons (.tup (.cons (.var 4) (.cons (.int 0) .nil))) (.cons (.tup (.cons (.op .add (.pk 4) (.int 1)) (.cons (.int 1) .nil))) .nil))) (.name 4) (.range1 (.op .sub (.pk 0) (.int 1))) .yes [4]))) (.cons (.set (.name 2) (.tup (.cons (.op .mul (.tup (.cons (.int 2) .nil)) (.pk 0)) (.cons (.var 1) .nil)))) (.cons (.setM 3 (.lst .nil)) (.cons (.for_ (.name 4) (.range1 (.pk 0)) (.cons (.ext 3 (.comp (.tup (.cons (.tup (.cons (.var 4) (.cons (.int 0) .nil))) (.cons (.tup (.cons (.var 6) (.cons (.int 1) .nil))) .nil))) (.name 6) (.range2 (.op .add (.pk 4) (.int 1)) (.pk 0)) .yes [6])) .nil)) (.cons (.ife (.or (.cmp .ne (.call i_hidden_rules (.cons (.var 2) .nil)) (.bi .tuple (.bi .sorted (.pk 3)))) (.cmp .ne (.bi .len (.call i_valid_tests (.cons (.var 2) .nil))) (.op .add (.pk 0) (.int 1)))) (.cons (.ret .fa) .nil) .nil) (.cons (.ife (.or (.val (.call i_is_possible (.cons (.var 2) (.cons (.tup (.cons (.tup (.cons (.int 0) (.cons (.int 0) .nil))) (.cons (.tup (.cons (.op .sub (.pk 0) (.int 1)) (.cons (.int 1) .nil))) .nil))) .nil)))) (.not (.val (.call i_is_possible (.cons (.var 2) (.cons (.tup (.cons (.tup (.cons (.int 0) (.cons (.int 1) .nil))) (.cons (.tup (.cons (.op .sub (.pk 0) (.int 1)) (.cons (.int 0) .nil))) .nil))) .nil)))))) (.cons (.ret .fa) .nil) .nil) (.cons (.set (.name 5) (.tup (.cons (.ix (.pk 2) (.int 0)) (.cons (.bi .tuple (.bi .sorted (.op .add (.pk 1) (.tup (.cons (.tup (.cons (.tup (.cons (.int 0) (.cons (.int 1) .nil))) .nil)) (.cons (.tup (.cons (.tup (.cons (.op .sub (.pk 0) (.int 1)) (.cons (.int 0) .nil))) .nil)) .nil)))))) .nil)))) (.cons (.ret (.and (.op .eq (.call i_valid_tests (.cons (.var 5) .nil)) (.tup .nil)) (.and (.op .eq (.call i_hidden_rules (.cons (.var 5) .nil)) (.tup .nil)) (.op .eq (.call i_extend (.cons (.var 5) (.cons (.tup .nil) (.cons (.int 1) .nil)))) (.tup .nil))))) .nil)))))))⟩
/-- _law_zeros(); slots  -/
def f_law_zeros : Fn := ⟨0, 0, .cons (.ret (.tup (.cons (.tup (.cons (.tup (.cons (.int 0) (.cons (.int 0) .nil))) (.cons (.tup (.cons (.int 1) (.cons (.int 0) .nil))) .nil))) (.cons (.tup (.cons (.tup (.cons (.int 0) (.cons (.int 0) .nil))) (.cons (.tup (.cons (.int 2) (.cons (.int 0) .nil))) .nil))) (.cons (.tup (.cons (.tup (.cons (.int 1) (.cons (.int 0) .nil))) (.cons (.tup (.cons (.int 2) (.cons (.int 0) .nil))) .nil))) .nil))))) .nil⟩
/-- _law_ring(shift); slots shift, rules, model, tops, below, one, other, left, at, test -/
def f_law_ring (i_best_packing i_lower_bound i_reached_strength i_smallest_suite i_valid_tests : Nat) : Fn := ⟨1, 10, .cons (.set (.name 1) (.comp (.bi .tuple (.bi .sorted (.lst (.cons (.tup (.cons (.var 8) (.cons (.int 1) .nil))) (.cons (.tup (.cons (.op .mod (.op .add (.pk 8) (.int 2)) (.int 5)) (.cons (.int 1) .nil))) .nil))))) (.name 8) (.range1 (.int 5)) .yes [8])) (.cons (.set (.name 2) (.tup (.cons (.tup (.cons (.int 2) (.cons (.int 2) (.cons (.int 2) (.cons (.int 2) (.cons (.int 2) .nil)))))) (.cons (.bi .tuple (.bi .sorted (.pk 1))) .nil)))) (.cons (.par 3 4 false false (.int 0) (.int 2)) (.cons (.for_ (.tup (.cons (.name 5) (.cons (.name 6) .nil))) (.seq (.call i_best_packing (.cons (.var 2) (.cons (.int 1) .nil)))) (.cons (.set (.name 3) (.op .add (.pk 3) (.op .fdiv (.op .mul (.pk 5) (.pk 4)) (.pk 6)))) .nil)) (.cons (.ife (.or (.cmp .ne (.bi .len (.call i_valid_tests (.cons (.var 2) .nil))) (.int 11)) (.or (.cmp .ne (.pk 3) (.int 5)) (.cmp .ne (.call i_lower_bound (.cons (.var 2) (.cons (.int 1) .nil))) (.int 3)))) (.cons (.ret .fa) .nil) .nil) (.cons (.set (.name 7) (.bi .tuple (.comp (.var 9) (.name 9) (.seq (.call i_valid_tests (.cons (.var 2) .nil))) (.one (.cmp .eq (.ix (.pk 9) (.pk 0)) (.int 0))) [9]))) (.cons (.ret (.and (.op .eq (.bi .len (.call i_smallest_suite (.cons (.var 2) (.cons (.int 1) .nil)))) (.int 3)) (.and (.op .eq (.call i_reached_strength (.cons (.var 2) (.cons (.var 7) .nil))) (.int 0)) (.op .eq (.bi .len (.pk 7)) (.int 8))))) .nil))))))⟩
/-- law(script); slots script, town, cube, best -/
def f_law_k35 (i__law_begun i__law_chain i__law_draw i__law_pair i__law_ring i__law_two i_is_locating i_lower_bound i_reached_strength i_smallest_suite i_valid_tests : Nat) : Fn := ⟨1, 4, .cons (.set (.name 1) (.call i__law_begun .nil)) (.cons (.ife (.not (.val (.call i__law_two (.cons (.op .add (.int 2) (.call i__law_draw (.cons (.var 0) (.cons (.var 1) (.cons (.int 3) .nil))))) (.cons (.op .add (.int 2) (.call i__law_draw (.cons (.var 0) (.cons (.var 1) (.cons (.int 3) .nil))))) .nil))))) (.cons (.ret .fa) .nil) .nil) (.cons (.ife (.not (.val (.call i__law_chain (.cons (.op .add (.int 2) (.call i__law_draw (.cons (.var 0) (.cons (.var 1) (.cons (.int 4) .nil))))) .nil)))) (.cons (.ret .fa) .nil) .nil) (.cons (.ife (.not (.val (.call i__law_pair (.cons (.call i__law_draw (.cons (.var 0) (.cons (.var 1) (.cons (.int 2) .nil)))) (.cons (.call i__law_draw (.cons (.var 0) (.cons (.var 1) (.cons (.int 2) .nil)))) .nil))))) (.cons (.ret .fa) .nil) .nil) (.cons (.ife (.not (.val (.call i__law_ring (.cons (.call i__law_draw (.cons (.var 0) (.cons (.var 1) (.cons (.int 5) .nil)))) .nil)))) (.cons (.ret .fa) .nil) .nil) (.cons (.set (.name 2) (.tup (.cons (.tup (.cons (.int 2) (.cons (.int 2) (.cons (.int 2) .nil)))) (.cons (.tup .nil) .nil)))) (.cons (.set (.name 3) (.tup (.cons (.tup (.cons (.int 0) (.cons (.int 0) (.cons (.int 0) .nil)))) (.cons (.tup (.cons (.int 0) (.cons (.int 1) (.cons (.int 1) .nil)))) (.cons (.tup (.cons (.int 1) (.cons (.int 0) (.cons (.int 1) .nil)))) (.cons (.tup (.cons (.int 1) (.cons (.int 1) (.cons (.int 0) .nil)))) .nil)))))) (.cons (.ife (.or (.cmp .ne (.call i_smallest_suite (.cons (.var 2) (.cons (.int 2) .nil))) (.pk 3)) (.or (.cmp .ne (.call i_reached_strength (.cons (.var 2) (.cons (.var 3) .nil))) (.int 2)) (.cmp .ne (.call i_lower_bound (.cons (.var 2) (.cons (.int 3) .nil))) (.int 8)))) (.cons (.ret .fa) .nil) .nil) (.cons (.ret (.and (.call i_is_locating (.cons (.var 2) (.cons (.call i_valid_tests (.cons (.var 2) .nil)) (.cons (.int 2) .nil)))) (.not (.call i_is_locating (.cons (.var 2) (.cons (.var 3) (.cons (.int 1) .nil))))))) .nil))))))))⟩
end Ev

set_option Elab.async false
set_option linter.all false
set_option maxRecDepth 100000
set_option autoImplicit false
/-! EvP: plain facts about the evaluator. -/
namespace Ev
open PySem
/-! ### the monad -/
@[simp] theorem m_bnd {α β : Type} (a : α) (f : α → M β) : bnd (ret a) f = f a := rfl
@[simp] theorem m_lift {α : Type} (a : α) : lift (some a) = ret a := rfl
@[simp] theorem m_nox {α : Type} (a : α) : nox (ret a) = ret a := rfl
@[simp] theorem m_ret {α : Type} (a : α) (w : W) : ret a w = .ok a w := rfl
@[simp] theorem m_bnd_thr {α β : Type} (c : Nat) (f : α → M β) : bnd (thr c) f = thr c := rfl
section
variable (cf : CF) (fu : Nat) (s : Sl)
@[simp] theorem e_var (i : Nat) : evE cf (E.var i) s = (lift (getI s i)) := by simp only [evE]
@[simp] theorem e_pk (i : Nat) : evE cf (E.pk i) s = (lift (getP s i)) := by simp only [evE]
@[simp] theorem e_none : evE cf (E.none) s = (ret .none) := by simp only [evE]
@[simp] theorem e_tr : evE cf (E.tr) s = (ret (.bool true)) := by simp only [evE]
@[simp] theorem e_fa : evE cf (E.fa) s = (ret (.bool false)) := by simp only [evE]
@[simp] theorem e_int (n : Int) : evE cf (E.int n) s = (ret (.int n)) := by simp only [evE]
@[simp] theorem e_str (x : Str) : evE cf (E.str x) s = (ret (.str x)) := by simp only [evE]
@[simp] theorem e_gint (x : Str) (n : Int) : evE cf (E.gint x n) s = (ret (.int n)) := by simp only [evE]
@[simp] theorem e_fn (f : Nat) : evE cf (E.fn f) s = (ret (fnD f)) := by simp only [evE]
@[simp] theorem e_tup (es : Es) : evE cf (E.tup es) s = (bnd (evEs cf es s) fun ds => if ds.length ≤ LIM then ret (.tuple ds) else bad) := by simp only [evE]
@[simp] theorem e_lst (es : Es) : evE cf (E.lst es) s = (bnd (evEs cf es s) fun ds => if ds.length ≤ LIM then ret (.list ds) else bad) := by simp only [evE]
@[simp] theorem e_dnew : evE cf (E.dnew) s = (ret (.dict [])) := by simp only [evE]
@[simp] theorem e_op (o : Op2) (a b : E) : evE cf (E.op o a b) s = (bnd (evE cf a s) fun x => bnd (evE cf b s) fun y => lift (opD o x y)) := by simp only [evE]
@[simp] theorem e_neg (a : E) : evE cf (E.neg a) s = (bnd (evE cf a s) fun x => bnd (lift (intD x)) fun i => ret (.int (-i))) := by simp only [evE]
@[simp] theorem e_and (a b : E) : evE cf (E.and a b) s = (bnd (evE cf a s) fun x => bnd (lift (boolD x)) fun c => if c then evE cf b s else ret (.bool false)) := by simp only [evE]
@[simp] theorem e_or (a b : E) : evE cf (E.or a b) s = (bnd (evE cf a s) fun x => bnd (lift (boolD x)) fun c => if c then ret (.bool true) else evE cf b s) := by simp only [evE]
@[simp] theorem e_not (a : E) : evE cf (E.not a) s = (bnd (evE cf a s) fun x => bnd (lift (boolD x)) fun c => ret (.bool (!c))) := by simp only [evE]
@[simp] theorem e_ite (t : T) (a b : E) : evE cf (E.ite t a b) s = (bnd (evT cf t s) fun c => if c then evE cf a s else evE cf b s) := by simp only [evE]
@[simp] theorem e_chain (o p : Op2) (a b c : E) : evE cf (E.chain o p a b c) s = (bnd (evE cf a s) fun x => bnd (evE cf b s) fun y => bnd (lift ((opD o x y).bind boolD)) fun k => if k then (bnd (evE cf c s) fun z => lift (opD p y z)) else ret (.bool false)) := by simp only [evE]
@[simp] theorem e_call (f : Nat) (es : Es) : evE cf (E.call f es) s = (bnd (evEs cf es s) fun ds => cf f ds) := by simp only [evE]
@[simp] theorem e_bi (b : Bi) (a : E) : evE cf (E.bi b a) s = (bnd (evE cf a s) fun x => lift (biD b x)) := by simp only [evE]
@[simp] theorem e_min2 (a b : E) : evE cf (E.min2 a b) s = (bnd (evE cf a s) fun x => bnd (evE cf b s) fun y => bnd (lift (intD x)) fun i => bnd (lift (intD y)) fun j => ret (.int (if j < i then j else i))) := by simp only [evE]
@[simp] theorem e_max2 (a b : E) : evE cf (E.max2 a b) s = (bnd (evE cf a s) fun x => bnd (evE cf b s) fun y => bnd (lift (intD x)) fun i => bnd (lift (intD y)) fun j => ret (.int (if j > i then j else i))) := by simp only [evE]
@[simp] theorem e_isi (t : Ty) (a : E) : evE cf (E.isi t a) s = (bnd (evE cf a s) fun x => bnd (lift (isiD t x)) fun b => ret (.bool b)) := by simp only [evE]
@[simp] theorem e_ix (a i : E) : evE cf (E.ix a i) s = (bnd (evE cf a s) fun x => bnd (evE cf i s) fun y => lift (ixD x y)) := by simp only [evE]
@[simp] theorem e_sl (a : E) (lo hi : Eo) : evE cf (E.sl a lo hi) s = (bnd (evE cf a s) fun x => bnd (evEo cf lo s) fun l => bnd (evEo cf hi s) fun h => lift (slD x l h)) := by simp only [evE]
@[simp] theorem e_get2 (a k d : E) : evE cf (E.get2 a k d) s = (bnd (evE cf a s) fun x => bnd (lift (dctD x)) fun kvs => bnd (evE cf k s) fun y => bnd (evE cf d s) fun z => if kyOk y kvs then ret ((lookD kvs y).getD z) else bad) := by simp only [evE]
@[simp] theorem e_index (a b : E) : evE cf (E.index a b) s = (bnd (evE cf a s) fun x => bnd (lift (lstD x)) fun xs => bnd (evE cf b s) fun y => lift (idxD xs y)) := by simp only [evE]
@[simp] theorem e_lam (xn : List Str) (a : E) : evE cf (.lam xn a) s = resM xn (evE cf a s) := by simp only [evE]
@[simp] theorem es_nil : evEs cf .nil s = ret [] := by simp only [evEs]
@[simp] theorem es_cons (e : E) (es : Es) : evEs cf (.cons e es) s = bnd (evE cf e s) fun x => bnd (evEs cf es s) fun r => ret (x :: r) := by simp only [evEs]
@[simp] theorem eo_no : evEo cf .no s = ret none := by simp only [evEo]
@[simp] theorem eo_so (e : E) : evEo cf (.so e) s = bnd (evE cf e s) fun x => bnd (lift (intD x)) fun i => ret (some i) := by simp only [evEo]
@[simp] theorem t_val (e : E) : evT cf (.val e) s = bnd (evE cf e s) fun x => lift (truD x) := by simp only [evT]
@[simp] theorem t_cmp (o : Op2) (a b : E) : evT cf (.cmp o a b) s = bnd (evE cf a s) fun x => bnd (evE cf b s) fun y => lift ((opD o x y).bind boolD) := by simp only [evT]
@[simp] theorem t_chain (o p : Op2) (a b c : E) : evT cf (.chain o p a b c) s = bnd (evE cf a s) fun x => bnd (evE cf b s) fun y => bnd (lift ((opD o x y).bind boolD)) fun k => if k then (bnd (evE cf c s) fun z => lift ((opD p y z).bind boolD)) else ret false := by simp only [evT]
@[simp] theorem t_and (a b : T) : evT cf (.and a b) s = bnd (evT cf a s) fun c => if c then evT cf b s else ret false := by simp only [evT]
@[simp] theorem t_or (a b : T) : evT cf (.or a b) s = bnd (evT cf a s) fun c => if c then ret true else evT cf b s := by simp only [evT]
@[simp] theorem t_not (a : T) : evT cf (.not a) s = bnd (evT cf a s) fun c => ret (!c) := by simp only [evT]
@[simp] theorem ts_yes : evTs cf .yes s = ret true := by simp only [evTs]
@[simp] theorem ts_one (t : T) : evTs cf (.one t) s = evT cf t s := by simp only [evTs]
@[simp] theorem i_seq_ (e : E) : evI cf (.seq e) s = bnd (evE cf e s) fun x => lift (seqD x) := by simp only [evI]
@[simp] theorem i_range1_ (a : E) : evI cf (.range1 a) s = bnd (evE cf a s) fun x => bnd (lift (intD x)) fun i => lift (rangeD 0 i) := by simp only [evI]
@[simp] theorem i_range2_ (a b : E) : evI cf (.range2 a b) s = bnd (evE cf a s) fun x => bnd (evE cf b s) fun y => bnd (lift (intD x)) fun i => bnd (lift (intD y)) fun j => lift (rangeD i j) := by simp only [evI]
@[simp] theorem i_zip_ (a b : E) : evI cf (.zip a b) s = bnd (evE cf a s) fun x => bnd (evE cf b s) fun y => lift (zipD x y) := by simp only [evI]
@[simp] theorem i_enum_ (a : E) : evI cf (.enum a) s = bnd (evE cf a s) fun x => lift (enumD x) := by simp only [evI]
@[simp] theorem i_down_ (a : E) : evI cf (.down a) s = bnd (evE cf a s) fun x => bnd (lift (intD x)) fun i => lift (downD i) := by simp only [evI]
/-- one statement, then the rest -/
def andThen (cf : CF) (fu : Nat) (b : B) : Fl → M Fl
  | .nx s' => evB cf fu b s'
  | .ct s' => ret (.ct s')
  | .rt v => ret (.rt v)
@[simp] theorem at_nx (b : B) (s' : Sl) : andThen cf fu b (.nx s') = evB cf fu b s' := rfl
@[simp] theorem at_ct (b : B) (s' : Sl) : andThen cf fu b (.ct s') = ret (.ct s') := rfl
@[simp] theorem at_rt (b : B) (v : D) : andThen cf fu b (.rt v) = ret (.rt v) := rfl
@[simp] theorem b_nil : evB cf fu .nil s = ret (.nx s) := by simp only [evB]
@[simp] theorem b_cons (st : S) (b : B) : evB cf fu (.cons st b) s = bnd (evS cf fu st s) (andThen cf fu b) := by
  simp only [evB]
  congr 1
@[simp] theorem b_frz (i : Nat) (b : B) : evB cf fu (.frz i b) s = bnd (lift (frzS s i)) fun s' => evB cf fu b s' := by simp only [evB]
@[simp] theorem s_expr (e : E) : evS cf fu (.expr e) s = bnd (evE cf e s) fun _ => ret (.nx s) := by simp only [evS]
@[simp] theorem s_set (tg : Tg) (e : E) : evS cf fu (.set tg e) s = bnd (evE cf e s) fun x => bnd (lift (bindT tg x s)) fun s' => ret (.nx s') := by simp only [evS]
@[simp] theorem s_setM (i : Nat) (e : E) : evS cf fu (.setM i e) s = bnd (evE cf e s) fun x => bnd (lift (mutS x)) fun v => if i < s.length then ret (.nx (s.set i (some v))) else bad := by simp only [evS]
@[simp] theorem s_par (i j : Nat) (m n : Bool) (a b : E) : evS cf fu (.par i j m n a b) s = bnd (evE cf a s) fun x => bnd (evE cf b s) fun y => bnd (lift (slotV m x)) fun u => bnd (lift (slotV n y)) fun v => if i < s.length ∧ j < s.length then ret (.nx ((s.set i (some u)).set j (some v))) else bad := by simp only [evS]
@[simp] theorem s_app (i : Nat) (e : E) : evS cf fu (.app i e) s = bnd (lift (getL s i)) fun xs => bnd (evE cf e s) fun x => if xs.length < LIM then ret (.nx (s.set i (some (.l (xs ++ [x]))))) else bad := by simp only [evS]
@[simp] theorem s_ext (i : Nat) (e : E) : evS cf fu (.ext i e) s = bnd (lift (getL s i)) fun xs => bnd (evE cf e s) fun x => bnd (lift (lstD x)) fun ys => if xs.length + ys.length ≤ LIM then ret (.nx (s.set i (some (.l (xs ++ ys))))) else bad := by simp only [evS]
@[simp] theorem s_dput (i : Nat) (k v : E) : evS cf fu (.dput i k v) s = bnd (evE cf v s) fun x => bnd (lift (getM s i)) fun kvs => bnd (evE cf k s) fun y => if kyOk y kvs && decide (kvs.length < LIM) then ret (.nx (s.set i (some (.m (putD y x kvs))))) else bad := by simp only [evS]
@[simp] theorem s_dpop (i : Nat) (k : E) : evS cf fu (.dpop i k) s = bnd (lift (getM s i)) fun kvs => bnd (evE cf k s) fun y => if tkOk y && kvs.all (fun p => tkOk p.1) then ret (.nx (s.set i (some (.m (dropD y kvs))))) else bad := by simp only [evS]
@[simp] theorem s_ife (t : T) (a b : B) : evS cf fu (.ife t a b) s = bnd (evT cf t s) fun c => if c then evB cf fu a s else evB cf fu b s := by simp only [evS]
/-- one turn of a loop -/
def turnF (cf : CF) (fu : Nat) (tg : Tg) (b : B) (d : D) (s : Sl) : M Fl := bnd (lift (bindT tg d s)) fun s' => evB cf fu b s'
@[simp] theorem s_for (tg : Tg) (it : I) (b : B) : evS cf fu (.for_ tg it b) s = bnd (evI cf it s) fun ds => forL (turnF cf fu tg b) ds s := by
  simp only [evS]
  rfl
theorem s_while (t : T) (b : B) : evS cf fu (.while_ t b) s = whileL (evT cf t) (evB cf fu b) fu s := by simp only [evS]
@[simp] theorem s_ret (e : E) : evS cf fu (.ret e) s = bnd (evE cf e s) fun x => ret (.rt x) := by simp only [evS]
@[simp] theorem s_raise (c : Nat) : evS cf fu (.raise c) s = thr c := by simp only [evS]
@[simp] theorem s_pass : evS cf fu .pass s = ret (.nx s) := by simp only [evS]
@[simp] theorem s_cont : evS cf fu .cont s = ret (.ct s) := by simp only [evS]
/-- the end of a def -/
def fin : Fl → M D
  | .rt v => ret v
  | .nx _ => ret .none
  | .ct _ => bad
@[simp] theorem fin_rt (v : D) : fin (.rt v) = ret v := rfl
@[simp] theorem fin_nx : fin (.nx s) = ret .none := rfl
theorem run_code {f : Fn} {ds : List D} {s0 : Sl} (hl : ds.length = f.np) (hs : startA f ds = s0) : runF cf fu f ds = bnd (evB cf fu f.body s0) fin := by
  unfold runF
  rw [if_pos hl, hs]
  congr 1
end
@[simp] theorem m_assoc {α β γ : Type} (x : M α) (f : α → M β) (g : β → M γ) : bnd (bnd x f) g = bnd x fun a => bnd (f a) g := bnd_assoc x f g
theorem bnd_ite {α β : Type} (c : Prop) [Decidable c] (x y : M α) (f : α → M β) : bnd (if c then x else y) f = if c then bnd x f else bnd y f := by split <;> rfl
@[simp] theorem res_ret (xn : List Str) (d : D) : resM xn (ret d) = ret (.tuple [.str "returns", d]) := rfl
theorem res_thr {xn : List Str} {k : Nat} {y : Str} (h : xn[k]? = some y) : resM xn (thr k) = ret (.tuple [.str y]) := by
  funext w
  show (match xn[k]? with
    | some y => R.ok (PyData.tuple [.str y]) w
    | none => .bad) = _
  rw [h]
  rfl
@[simp] theorem slotV_t (d : D) : slotV true d = mutS d := rfl
@[simp] theorem slotV_f (d : D) : slotV false d = some (.i d) := rfl
/-! ### slots -/
@[simp] theorem getI_z (d : D) (s : Sl) : getI (some (.i d) :: s) 0 = some d := rfl
@[simp] theorem getI_s (x : Option SV) (s : Sl) (n : Nat) : getI (x :: s) (n + 1) = getI s n := rfl
@[simp] theorem getP_zi (d : D) (s : Sl) : getP (some (.i d) :: s) 0 = some d := rfl
@[simp] theorem getP_zl (d : List D) (s : Sl) : getP (some (.l d) :: s) 0 = some (.list d) := rfl
@[simp] theorem getP_zm (d : List (D × D)) (s : Sl) : getP (some (.m d) :: s) 0 = some (.dict d) := rfl
@[simp] theorem getP_s (x : Option SV) (s : Sl) (n : Nat) : getP (x :: s) (n + 1) = getP s n := rfl
@[simp] theorem getL_z (d : List D) (s : Sl) : getL (some (.l d) :: s) 0 = some d := rfl
@[simp] theorem getL_s (x : Option SV) (s : Sl) (n : Nat) : getL (x :: s) (n + 1) = getL s n := rfl
@[simp] theorem getM_z (d : List (D × D)) (s : Sl) : getM (some (.m d) :: s) 0 = some d := rfl
@[simp] theorem getM_s (x : Option SV) (s : Sl) (n : Nat) : getM (x :: s) (n + 1) = getM s n := rfl
/-! ### comprehensions -/
theorem compL_ret {f : D → M (Option D)} (g : D → Option D) : ∀ (ds : List D), (∀ d ∈ ds, f d = ret (g d)) → compL f ds = ret (ds.filterMap g)
  | [], _ => rfl
  | d :: ds, h => by
    rw [compL, h d List.mem_cons_self, m_bnd, compL_ret g ds fun x hx => h x (List.mem_cons_of_mem _ hx), m_bnd, List.filterMap_cons]
    cases g d <;> rfl
theorem evE_comp (cf : CF) (elt : E) (tg : Tg) (it : I) (ifs : Ts) (own : List Nat) (s : Sl) : evE cf (.comp elt tg it ifs own) s = bnd (evI cf it s) fun ds => bnd (nox (compL (turnC cf elt tg ifs (wipeA s own)) ds)) fun r => ret (.list r) := by
  simp only [evE]
  rfl
/-- a comprehension over pure code; the items come from α by e -/
theorem ev_comp {α : Type} {cf : CF} {elt : E} {tg : Tg} {it : I} {ifs : Ts} {own : List Nat} {s : Sl} (e : α → D) (l : List α) (g : α → Option D) (hi : evI cf it s = ret (l.map e)) (h : ∀ x ∈ l, turnC cf elt tg ifs (wipeA s own) (e x) = ret (g x)) : evE cf (.comp elt tg it ifs own) s = ret (.list (l.filterMap g)) := by
  rw [evE_comp, hi, m_bnd]
  have key : ∀ l : List α, (∀ x ∈ l, turnC cf elt tg ifs (wipeA s own) (e x) = ret (g x)) → compL (turnC cf elt tg ifs (wipeA s own)) (l.map e) = ret (l.filterMap g) := by
    intro l
    induction l with
    | nil => intro _; rfl
    | cons x l ih =>
      intro h
      rw [List.map_cons, compL, h x List.mem_cons_self, m_bnd, ih fun y hy => h y (List.mem_cons_of_mem _ hy), m_bnd, List.filterMap_cons]
      cases g x <;> rfl
  rw [key l h, m_nox, m_bnd]
theorem ev_compM {α : Type} {cf : CF} {elt : E} {tg : Tg} {it : I} {ifs : Ts} {own : List Nat} {s : Sl} (e : α → D) (l : List α) (g : α → D) (hi : evI cf it s = ret (l.map e)) (h : ∀ x ∈ l, turnC cf elt tg ifs (wipeA s own) (e x) = ret (some (g x))) : evE cf (.comp elt tg it ifs own) s = ret (.list (l.map g)) := by
  rw [ev_comp e l (fun x => some (g x)) hi h]
  congr 2
  exact congrFun (List.filterMap_eq_map (f := g)) l
theorem boolsD_map {α : Type} (f : α → Bool) : ∀ l : List α, boolsD (l.map fun x => .bool (f x)) = some (l.map f)
  | [] => rfl
  | x :: l => by rw [List.map_cons, boolsD, boolsD_map f l]; rfl
theorem intsD_map : ∀ l : List Int, intsD (l.map .int) = some l
  | [] => rfl
  | x :: l => by rw [List.map_cons, intsD, intsD_map l]; rfl
theorem allD_map {α : Type} (f : α → Bool) (l : List α) : allD (.list (l.map fun x => .bool (f x))) = some (.bool (l.all f)) := by
  show (boolsD _).map _ = _
  rw [boolsD_map]
  simp [List.all_map, Function.comp_def]
theorem anyD_map {α : Type} (f : α → Bool) (l : List α) : anyD (.list (l.map fun x => .bool (f x))) = some (.bool (l.any f)) := by
  show (boolsD _).map _ = _
  rw [boolsD_map]
  simp [List.any_map, Function.comp_def]
/-! ### data without dicts -/
def Pl (d : D) : Prop := ok2 d = true
theorem pl_iff {d : D} : Pl d ↔ d.canLay0 = true ∧ d.depth ≤ 64 := by
  unfold Pl ok2 SeqAt.shaped
  rw [Bool.and_eq_true, decide_eq_true_eq]
theorem pl_dict {kvs : List (D × D)} (h : Pl (.dict kvs)) : False := by
  have := (pl_iff.mp h).1
  simp [PyData.canLay0] at this
theorem canLay_all {xs : List D} : PyData.canLayAll0 xs = true ↔ ∀ x ∈ xs, x.canLay0 = true := by
  induction xs with
  | nil => simp [PyData.canLayAll0]
  | cons x xs ih => rw [PyData.canLayAll0, Bool.and_eq_true, ih]; simp
theorem depth_all {xs : List D} {n : Nat} : PyData.depthAll xs ≤ n ↔ ∀ x ∈ xs, x.depth ≤ n := by
  induction xs with
  | nil => simp [PyData.depthAll]
  | cons x xs ih => rw [PyData.depthAll, Nat.max_le, ih]; simp
theorem pl_tuple {xs : List D} (h : Pl (.tuple xs)) : ∀ x ∈ xs, Pl x := fun x hx => by
  obtain ⟨h1, h2⟩ := pl_iff.mp h
  rw [PyData.canLay0] at h1
  rw [PyData.depth] at h2
  exact pl_iff.mpr ⟨canLay_all.mp h1 x hx, depth_all.mp (by omega : PyData.depthAll xs ≤ 64) x hx⟩
theorem pl_list {xs : List D} (h : Pl (.list xs)) : ∀ x ∈ xs, Pl x := fun x hx => by
  obtain ⟨h1, h2⟩ := pl_iff.mp h
  rw [PyData.canLay0] at h1
  rw [PyData.depth] at h2
  exact pl_iff.mpr ⟨canLay_all.mp h1 x hx, depth_all.mp (by omega : PyData.depthAll xs ≤ 64) x hx⟩
/-! ### steps: what stands first is run, the rest goes on -/
theorem bnd_eq {α β : Type} {x : M α} {a : α} {g : α → M β} {r : M β} (h : x = ret a) (k : g a = r) : bnd x g = r := by rw [h]; exact k
/-- a loop of pure code, by a word of the slots at each turn -/
theorem bnd_for {β : Type} {f : D → Sl → M Fl} {ds : List D} {s : Sl} {g : Fl → M β} {r : M β} (J : Nat → Sl → Prop) (h0 : J 0 s) (hs : ∀ (k : Nat) (d : D) (s : Sl), ds[k]? = some d → J k s → ∃ s', f d s = ret (.nx s') ∧ J (k + 1) s') (he : ∀ s', J ds.length s' → g (.nx s') = r) : bnd (forL f ds s) g = r := by
  have key : ∀ (l : List D) (k : Nat) (s : Sl), k + l.length = ds.length → ds.drop k = l → J k s → ∃ s', forL f l s = ret (.nx s') ∧ J ds.length s' := by
    intro l
    induction l with
    | nil =>
      intro k s hl hd hJ
      have e : k = ds.length := hl
      exact ⟨s, rfl, e ▸ hJ⟩
    | cons d l ih =>
      intro k s hl hd hJ
      rw [List.length_cons] at hl
      have hk : k < ds.length := by omega
      rw [List.drop_eq_getElem_cons hk] at hd
      injection hd with e1 e2
      obtain ⟨s1, q1, J1⟩ := hs k d s (by rw [List.getElem?_eq_getElem hk, e1]) hJ
      obtain ⟨s2, q2, J2⟩ := ih (k + 1) s1 (by omega) e2 J1
      refine ⟨s2, ?_, J2⟩
      rw [forL, q1, m_bnd]
      exact q2
  obtain ⟨s', e, J'⟩ := key ds 0 s (by simp) (by simp) h0
  rw [e, m_bnd]
  exact he s' J'
/-- a comprehension at the front -/
theorem bnd_compM {α β : Type} {cf : CF} {elt : E} {tg : Tg} {it : I} {ifs : Ts} {own : List Nat} {s : Sl} {k : D → M β} {r : M β} (e : α → D) (l : List α) (g : α → D) (hi : evI cf it s = ret (l.map e)) (h : ∀ x ∈ l, turnC cf elt tg ifs (wipeA s own) (e x) = ret (some (g x))) (hk : k (.list (l.map g)) = r) : bnd (evE cf (.comp elt tg it ifs own) s) k = r :=
  bnd_eq (ev_compM e l g hi h) hk
theorem bnd_compF {α β : Type} {cf : CF} {elt : E} {tg : Tg} {it : I} {ifs : Ts} {own : List Nat} {s : Sl} {k : D → M β} {r : M β} (e : α → D) (l : List α) (g : α → Option D) (hi : evI cf it s = ret (l.map e)) (h : ∀ x ∈ l, turnC cf elt tg ifs (wipeA s own) (e x) = ret (g x)) (hk : k (.list (l.filterMap g)) = r) : bnd (evE cf (.comp elt tg it ifs own) s) k = r :=
  bnd_eq (ev_comp e l g hi h) hk
/-- .. that keeps some items -/
theorem filterMap_keep {α : Type} (e : α → D) (p : α → Bool) (l : List α) : (l.filterMap fun x => if p x = true then some (e x) else none) = (l.filter p).map e := by
  induction l with
  | nil => rfl
  | cons x l ih =>
    rw [List.filterMap_cons, List.filter_cons]
    cases h : p x <;> simp [ih]
theorem bnd_compK {α β : Type} {cf : CF} {elt : E} {tg : Tg} {it : I} {ifs : Ts} {own : List Nat} {s : Sl} {k : D → M β} {r : M β} (e g : α → D) (l : List α) (p : α → Bool) (hi : evI cf it s = ret (l.map e)) (h : ∀ x ∈ l, turnC cf elt tg ifs (wipeA s own) (e x) = ret (if p x = true then some (g x) else none)) (hk : k (.list ((l.filter p).map g)) = r) : bnd (evE cf (.comp elt tg it ifs own) s) k = r :=
  bnd_compF e l _ hi h (by rw [filterMap_keep]; exact hk)
/-! ### pure code, told by a word of its answer -/
def Pu {α : Type} (x : M α) (P : α → Prop) : Prop := ∃ a, x = ret a ∧ P a
section
variable {α β : Type}
theorem Pu.ret {a : α} {P : α → Prop} (h : P a) : Pu (Ev.ret a) P := ⟨a, rfl, h⟩
theorem Pu.of {x : M α} {a : α} {P : α → Prop} (e : x = Ev.ret a) (h : P a) : Pu x P := ⟨a, e, h⟩
theorem Pu.eq {x : M α} {a : α} (h : Pu x fun b => b = a) : x = Ev.ret a := by
  obtain ⟨b, e, rfl⟩ := h
  exact e
theorem Pu.bnd {x : M α} {f : α → M β} {P : α → Prop} {Q : β → Prop} (h : Pu x P) (k : ∀ a, P a → Pu (f a) Q) : Pu (Ev.bnd x f) Q := by
  obtain ⟨a, rfl, p⟩ := h
  exact k a p
theorem Pu.bndE {x : M α} {f : α → M β} {a : α} {Q : β → Prop} (h : x = Ev.ret a) (k : Pu (f a) Q) : Pu (Ev.bnd x f) Q := by
  subst h
  exact k
theorem Pu.imp {x : M α} {P Q : α → Prop} (h : Pu x P) (k : ∀ a, P a → Q a) : Pu x Q := by
  obtain ⟨a, e, p⟩ := h
  exact ⟨a, e, k a p⟩
/-- a loop, which may be left by a return -/
theorem Pu.forR {f : D → Sl → M Fl} {ds : List D} {s : Sl} (J : Nat → Sl → Prop) (Q : D → Prop) (h0 : J 0 s)
    (hs : ∀ (k : Nat) (d : D) (s : Sl), ds[k]? = some d → J k s → Pu (f d s) fun r => (∃ s', (r = .nx s' ∨ r = .ct s') ∧ J (k + 1) s') ∨ ∃ v, r = .rt v ∧ Q v) :
    Pu (forL f ds s) fun r => (∃ s', r = .nx s' ∧ J ds.length s') ∨ ∃ v, r = .rt v ∧ Q v := by
  have key : ∀ (l : List D) (k : Nat) (s : Sl), k + l.length = ds.length → ds.drop k = l → J k s → Pu (forL f l s) fun r => (∃ s', r = .nx s' ∧ J ds.length s') ∨ ∃ v, r = .rt v ∧ Q v := by
    intro l
    induction l with
    | nil =>
      intro k s hl hd hJ
      have e : k = ds.length := hl
      exact ⟨_, rfl, .inl ⟨s, rfl, e ▸ hJ⟩⟩
    | cons d l ih =>
      intro k s hl hd hJ
      rw [List.length_cons] at hl
      have hk : k < ds.length := by omega
      rw [List.drop_eq_getElem_cons hk] at hd
      injection hd with e1 e2
      rw [forL]
      refine (hs k d s (by rw [List.getElem?_eq_getElem hk, e1]) hJ).bnd fun r hr => ?_
      rcases hr with ⟨s', hr | hr, J1⟩ | ⟨v, hr, hv⟩
      · subst hr
        exact ih (k + 1) s' (by omega) e2 J1
      · subst hr
        exact ih (k + 1) s' (by omega) e2 J1
      · subst hr
        exact .ret (.inr ⟨v, rfl, hv⟩)
  exact key ds 0 s (by simp) (by simp) h0
theorem Pu.for {f : D → Sl → M Fl} {ds : List D} {s : Sl} (J : Nat → Sl → Prop) (h0 : J 0 s) (hs : ∀ (k : Nat) (d : D) (s : Sl), ds[k]? = some d → J k s → Pu (f d s) fun r => ∃ s', (r = .nx s' ∨ r = .ct s') ∧ J (k + 1) s') : Pu (forL f ds s) fun r => ∃ s', r = .nx s' ∧ J ds.length s' := by
  refine (Pu.forR J (fun _ => False) h0 fun k d s hk hJ => (hs k d s hk hJ).imp fun r h => .inl h).imp fun r h => ?_
  rcases h with h | ⟨_, _, h⟩
  · exact h
  · exact h.elim
/-- a loop over a list that comes from α -/
theorem Pu.forM {γ : Type} {f : D → Sl → M Fl} {ds : List D} {s : Sl} (e : γ → D) (l : List γ) (hd : ds = l.map e) (J : Nat → Sl → Prop) (h0 : J 0 s) (hs : ∀ (k : Nat) (x : γ) (s : Sl), l[k]? = some x → J k s → Pu (f (e x) s) fun r => ∃ s', (r = .nx s' ∨ r = .ct s') ∧ J (k + 1) s') : Pu (forL f ds s) fun r => ∃ s', r = .nx s' ∧ J l.length s' := by
  subst hd
  have := Pu.for (f := f) (ds := l.map e) (s := s) J h0 fun k d s hk hJ => by
    rw [List.getElem?_map] at hk
    obtain ⟨x, hx, rfl⟩ := Option.map_eq_some_iff.mp hk
    exact hs k x s hx hJ
  rw [List.length_map] at this
  exact this
theorem Pu.forMR {γ : Type} {f : D → Sl → M Fl} {ds : List D} {s : Sl} (e : γ → D) (l : List γ) (hd : ds = l.map e) (J : Nat → Sl → Prop) (Q : D → Prop) (h0 : J 0 s) (hs : ∀ (k : Nat) (x : γ) (s : Sl), l[k]? = some x → J k s → Pu (f (e x) s) fun r => (∃ s', (r = .nx s' ∨ r = .ct s') ∧ J (k + 1) s') ∨ ∃ v, r = .rt v ∧ Q v) : Pu (forL f ds s) fun r => (∃ s', r = .nx s' ∧ J l.length s') ∨ ∃ v, r = .rt v ∧ Q v := by
  subst hd
  have := Pu.forR (f := f) (ds := l.map e) (s := s) J Q h0 fun k d s hk hJ => by
    rw [List.getElem?_map] at hk
    obtain ⟨x, hx, rfl⟩ := Option.map_eq_some_iff.mp hk
    exact hs k x s hx hJ
  rw [List.length_map] at this
  exact this
/-- the turn ends here -/
theorem Pu.nx {s : Sl} {J : Sl → Prop} (h : J s) : Pu (Ev.ret (Fl.nx s)) fun r => ∃ s', (r = .nx s' ∨ r = .ct s') ∧ J s' := ⟨_, rfl, s, .inl rfl, h⟩
theorem Pu.nxR {s : Sl} {J : Sl → Prop} {Q : D → Prop} (h : J s) : Pu (Ev.ret (Fl.nx s)) fun r => (∃ s', (r = .nx s' ∨ r = .ct s') ∧ J s') ∨ ∃ v, r = .rt v ∧ Q v := ⟨_, rfl, .inl ⟨s, .inl rfl, h⟩⟩
theorem Pu.rtR {v : D} {J : Sl → Prop} {Q : D → Prop} (h : Q v) : Pu (Ev.ret (Fl.rt v)) fun r => (∃ s', (r = .nx s' ∨ r = .ct s') ∧ J s') ∨ ∃ v, r = .rt v ∧ Q v := ⟨_, rfl, .inr ⟨v, rfl, h⟩⟩
/-- a comprehension at the front -/
theorem Pu.compM {cf : CF} {elt : E} {tg : Tg} {it : I} {ifs : Ts} {own : List Nat} {s : Sl} {k : D → M β} {Q : β → Prop} (e : α → D) (l : List α) (g : α → D) (hi : evI cf it s = Ev.ret (l.map e)) (h : ∀ x ∈ l, turnC cf elt tg ifs (wipeA s own) (e x) = Ev.ret (some (g x))) (hk : Pu (k (.list (l.map g))) Q) : Pu (Ev.bnd (evE cf (.comp elt tg it ifs own) s) k) Q := Pu.bndE (ev_compM e l g hi h) hk
theorem Pu.compK {cf : CF} {elt : E} {tg : Tg} {it : I} {ifs : Ts} {own : List Nat} {s : Sl} {k : D → M β} {Q : β → Prop} (e g : α → D) (l : List α) (p : α → Bool) (hi : evI cf it s = Ev.ret (l.map e)) (h : ∀ x ∈ l, turnC cf elt tg ifs (wipeA s own) (e x) = Ev.ret (if p x = true then some (g x) else none)) (hk : Pu (k (.list ((l.filter p).map g))) Q) : Pu (Ev.bnd (evE cf (.comp elt tg it ifs own) s) k) Q :=
  Pu.bndE ((ev_comp e l _ hi h).trans (by rw [filterMap_keep])) hk
end
end Ev

set_option Elab.async false
set_option linter.all false
set_option maxRecDepth 100000
set_option autoImplicit false
/-! EvM: what the defs of faultcover.models answer. -/
namespace Ev
open PySem
/-! ### is_integer -/
def isIntD : D → Bool
  | .int _ => true
  | _ => false
theorem ev_is_integer (cf : CF) (fu : Nat) {d : D} (h : Pl d) : runF cf fu f_is_integer [d] = ret (.bool (isIntD d)) := by
  cases d with
  | dict kvs => exact (pl_dict h).elim
  | _ => rfl
/-! ### is_ascending -/
def ascB : List D → Bool
  | x :: y :: r => PySem.W.dataLt x y && ascB (y :: r)
  | _ => true
theorem zip_asc : ∀ xs : List D, (xs.zip (xs.drop 1)).all (fun p => PySem.W.dataLt p.1 p.2) = ascB xs
  | [] => rfl
  | [x] => rfl
  | x :: y :: r => by
    have ih := zip_asc (y :: r)
    show (PySem.W.dataLt x y && ((y :: r).zip r).all _) = _
    rw [ascB]
    rw [show (y :: r).drop 1 = r from rfl] at ih
    rw [ih]
theorem zip_asc' (xs : List D) : (xs.zip xs.tail).all (fun p => PySem.W.dataLt p.1 p.2) = ascB xs := by rw [← List.drop_one]; exact zip_asc xs
/-- they may be compared -/
def cmpOk (xs : List D) : Prop := ∀ x ∈ xs, Pl x ∧ notNone x = true ∧ ∀ y ∈ xs, PySem.W.alike x y = true
theorem ltD_ok {xs : List D} (h : cmpOk xs) {x y : D} (hx : x ∈ xs) (hy : y ∈ xs) : ltD x y = some (PySem.W.dataLt x y) := by
  unfold ltD
  rw [show ok2 x = true from (h x hx).1, show ok2 y = true from (h y hy).1, (h x hx).2.2 y hy, (h x hx).2.1]
  rfl
theorem cut1 (xs : List D) : cutD xs (some 1) none = xs.drop 1 := by
  unfold cutD slI
  cases xs with
  | nil => rfl
  | cons x r =>
    have : min (1 : Int).toNat (x :: r).length = 1 := by simp
    simp
theorem mem_zip1 {xs : List D} {p : D × D} (h : p ∈ xs.zip (xs.drop 1)) : p.1 ∈ xs ∧ p.2 ∈ xs := by
  have := List.of_mem_zip h
  exact ⟨this.1, List.mem_of_mem_drop this.2⟩
theorem ev_is_ascending (cf : CF) (fu : Nat) {xs : List D} (h : cmpOk xs) : runF cf fu f_is_ascending [.tuple xs] = ret (.bool (ascB xs)) ∧ runF cf fu f_is_ascending [.list xs] = ret (.bool (ascB xs)) := by
  have turn : ∀ (s0 : Option SV) (p : D × D), p ∈ xs.zip (xs.drop 1) → turnC cf (.op .lt (.pk 1) (.pk 2)) (.tup (.cons (.name 1) (.cons (.name 2) .nil))) .yes [s0, none, none] (pairD p) = ret (some (.bool (PySem.W.dataLt p.1 p.2))) := fun s0 p hp => by
    have hl := ltD_ok h (mem_zip1 hp).1 (mem_zip1 hp).2
    simp [turnC, pairD, bindT, bindTs, getP, opD, hl]
  constructor
  · rw [run_code cf fu (f := f_is_ascending) rfl (s0 := [some (.i (.tuple xs)), none, none]) rfl]
    simp only [f_is_ascending, b_cons, s_ret, e_bi, m_assoc]
    rw [ev_compM pairD (xs.zip (xs.drop 1)) (fun p => .bool (PySem.W.dataLt p.1 p.2)) (by simp [getI, getP, slD, zipD, cut1, intD]) (turn _)]
    simp [biD, allD_map, zip_asc']
  · rw [run_code cf fu (f := f_is_ascending) rfl (s0 := [some (.i (.list xs)), none, none]) rfl]
    simp only [f_is_ascending, b_cons, s_ret, e_bi, m_assoc]
    rw [ev_compM pairD (xs.zip (xs.drop 1)) (fun p => .bool (PySem.W.dataLt p.1 p.2)) (by simp [getI, getP, slD, zipD, cut1, intD]) (turn _)]
    simp [biD, allD_map, zip_asc']

/-! ### is_pair_of -/
def szD (ns : List Int) : D := .tuple (ns.map .int)
def isPairD (ns : List Int) : D → Bool
  | .tuple [.int p, .int v] => decide (0 ≤ p) && decide (p < ns.length) && decide (0 ≤ v) && decide (v < ns.getD p.toNat 0)
  | _ => false
theorem ixD_sz {ns : List Int} {p : Int} (h0 : 0 ≤ p) (h1 : p < ns.length) : ixD (szD ns) (.int p) = some (.int (ns.getD p.toNat 0)) := by
  have hl : p.toNat < ns.length := by omega
  show (ixI (ns.map PyData.int).length p).bind (fun j => (ns.map PyData.int)[j]?) = _
  unfold ixI
  rw [if_pos h0, List.length_map, if_pos h1]
  show (ns.map PyData.int)[p.toNat]? = _
  rw [List.getElem?_map, List.getD_eq_getElem?_getD, List.getElem?_eq_getElem hl]
  rfl
/-- all of the items are ints -/
theorem ev_all_int {cf : CF} {i n : Nat} (hI : ∀ d, Pl d → cf i [d] = ret (.bool (isIntD d))) {xs : List D} (hp : ∀ x ∈ xs, Pl x) {s : Sl} {it : I} {j : Nat} (hj : j < s.length) (hi : evI cf it s = ret xs) :
    evE cf (.comp (.call i (.cons (.var j) .nil)) (.name j) it .yes [j]) s = ret (.list (xs.map fun x => .bool (isIntD x))) := by
  refine ev_compM (fun x => x) xs (fun x => .bool (isIntD x)) (by rw [hi, List.map_id']) fun x hx => ?_
  simp [turnC, wipeA, bindT, getI, hj, hI x (hp x hx)]
theorem ne_int (a b : Int) : (opD .ne (.int a) (.int b)).bind boolD = some (!(a == b)) := by
  simp [opD, eqD, ok2, SeqAt.shaped, PyData.canLay0, PyData.depth, PyData.eqv, boolD]
theorem eq_int (a b : Int) : (opD .eq (.int a) (.int b)).bind boolD = some (a == b) := by
  simp [opD, eqD, ok2, SeqAt.shaped, PyData.canLay0, PyData.depth, PyData.eqv, boolD]
@[simp] theorem op_le (a b : Int) : opD .le (.int a) (.int b) = some (.bool (decide (a ≤ b))) := rfl
@[simp] theorem op_ge (a b : Int) : opD .ge (.int a) (.int b) = some (.bool (decide (b ≤ a))) := rfl
@[simp] theorem op_gt (a b : Int) : opD .gt (.int a) (.int b) = some (.bool (decide (b < a))) := rfl
@[simp] theorem op_add (a b : Int) : opD .add (.int a) (.int b) = some (.int (a + b)) := rfl
@[simp] theorem op_sub (a b : Int) : opD .sub (.int a) (.int b) = some (.int (a - b)) := rfl
@[simp] theorem op_lt (a b : Int) : opD .lt (.int a) (.int b) = some (.bool (decide (a < b))) := by
  show (ltD (.int a) (.int b)).map _ = _
  unfold ltD
  rw [PySem.W.dataLt_int]
  rfl
theorem ixD2 (a b : D) : ixD (.tuple [a, b]) (.int 0) = some a ∧ ixD (.tuple [a, b]) (.int 1) = some b := ⟨rfl, rfl⟩
@[simp] theorem boolD_b (b : Bool) : boolD (.bool b) = some b := rfl
theorem ev_is_pair_of {cf : CF} {i : Nat} (fu : Nat) (hI : ∀ d, Pl d → cf i [d] = ret (.bool (isIntD d))) (ns : List Int) {d : D} (h : Pl d) : runF cf fu (f_is_pair_of i) [szD ns, d] = ret (.bool (isPairD ns d)) := by
  rw [run_code cf fu (f := f_is_pair_of i) rfl (s0 := [some (.i (szD ns)), some (.i d), none]) rfl]
  cases d with
  | dict kvs => exact (pl_dict h).elim
  | tuple xs =>
    have hx := pl_tuple h
    simp only [f_is_pair_of, b_cons, s_ife, t_or, t_not, t_val, e_isi, e_pk, e_bi, t_cmp, e_int]
    rw [ev_all_int (n := 0) hI hx (by simp) (by simp [getI, seqD])]
    simp only [getP, isiD, biD, lenD, truD, allD_map, List.getElem?_cons_succ, List.getElem?_cons_zero, m_lift, m_bnd, m_assoc, ne_int, Bool.not_true, if_false]
    by_cases hl : xs.length = 2
    · match xs, hl with
      | [a, b], _ =>
        cases a with
        | int p =>
          cases b with
          | int v =>
            have e2 : lenD (szD ns) = some (.int ns.length) := by simp [szD, lenD]
            simp only [isIntD, List.all_cons, List.all_nil, Bool.and_true, Bool.not_true, m_bnd, List.length_cons, List.length_nil]
            simp only [show ((((0 + 1 + 1 : Nat) : Int) == 2) = true) from rfl, Bool.not_true, Bool.false_eq_true, if_false, b_nil, m_bnd, at_nx, b_cons, s_ret, e_and, e_chain, e_int, e_ix, e_pk, e_bi, getP, List.getElem?_cons_succ, List.getElem?_cons_zero, m_lift, (ixD2 _ _).1, (ixD2 _ _).2, biD, e2, op_le, op_lt, Option.bind_some, boolD_b, m_assoc, at_rt]
            by_cases h0 : 0 ≤ p
            · by_cases h1 : p < ns.length
              · by_cases h2 : 0 ≤ v
                · simp [h0, h1, h2, ixD_sz h0 h1, isPairD]
                · simp [h0, h1, h2, isPairD]
              · simp [h0, h1, isPairD]
            · simp [h0, isPairD]
          | _ => rfl
        | _ => rfl
    · have e : ((xs.length : Int) == 2) = false := by
        rw [beq_eq_false_iff_ne]
        omega
      simp only [e]
      have er : isPairD ns (.tuple xs) = false := by
        unfold isPairD
        split
        · rename_i q
          cases q
          exact absurd rfl hl
        · rfl
      rw [er]
      rfl
  | _ => rfl

/-! ### is_combination_of -/
def prI (p : Int × Int) : D := .tuple [.int p.1, .int p.2]
def fstD : D → D
  | .tuple (x :: _) => x
  | _ => .none
def isCombD (ns : List Int) : D → Bool
  | .tuple xs => !xs.isEmpty && xs.all (isPairD ns) && ascB (xs.map fstD)
  | _ => false
theorem pair_shape {ns : List Int} {d : D} (h : isPairD ns d = true) : ∃ p : Int × Int, d = prI p ∧ 0 ≤ p.1 ∧ p.1 < ns.length ∧ 0 ≤ p.2 ∧ p.2 < ns.getD p.1.toNat 0 := by
  unfold isPairD at h
  split at h
  · rename_i p v
    simp only [Bool.and_eq_true, decide_eq_true_eq] at h
    exact ⟨(p, v), rfl, h.1.1.1, h.1.1.2, h.1.2, h.2⟩
  · cases h
theorem pairs_shape {ns : List Int} : ∀ {xs : List D}, xs.all (isPairD ns) = true → ∃ ps : List (Int × Int), xs = ps.map prI
  | [], _ => ⟨[], rfl⟩
  | x :: xs, h => by
    rw [List.all_cons, Bool.and_eq_true] at h
    obtain ⟨p, e, _⟩ := pair_shape h.1
    obtain ⟨ps, e2⟩ := pairs_shape h.2
    exact ⟨p :: ps, by rw [e, e2]; rfl⟩
theorem pl_int (i : Int) : Pl (.int i) := pl_iff.mpr ⟨rfl, (show 0 ≤ 64 by decide)⟩
theorem cmp_ints (is : List Int) : cmpOk (is.map .int) := fun x hx => by
  obtain ⟨i, _, rfl⟩ := List.mem_map.mp hx
  refine ⟨pl_int i, rfl, fun y hy => ?_⟩
  obtain ⟨j, _, rfl⟩ := List.mem_map.mp hy
  rfl
theorem eqv_nil (xs : List D) : PyData.eqv (.tuple xs) (.tuple []) = xs.isEmpty := by
  cases xs <;> simp [PyData.eqv, PyData.eqvAll]
theorem pl_nil : Pl (.tuple []) := pl_iff.mpr ⟨rfl, by decide⟩
theorem eqD_pl {x y : D} (hx : Pl x) (hy : Pl y) : eqD x y = some (PyData.eqv x y) := by
  unfold eqD
  rw [show ok2 x = true from hx, show ok2 y = true from hy]
  rfl
theorem op_eq {x y : D} (hx : Pl x) (hy : Pl y) : opD .eq x y = some (.bool (PyData.eqv x y)) := by
  show (eqD x y).map _ = _
  rw [eqD_pl hx hy]
  rfl
theorem op_ne {x y : D} (hx : Pl x) (hy : Pl y) : opD .ne x y = some (.bool (!PyData.eqv x y)) := by
  show (eqD x y).map _ = _
  rw [eqD_pl hx hy]
  rfl
/-- the contract of is_ascending -/
abbrev AscOk (cf : CF) (i : Nat) : Prop := ∀ xs, cmpOk xs → cf i [.tuple xs] = ret (.bool (ascB xs)) ∧ cf i [.list xs] = ret (.bool (ascB xs))
abbrev IntOk (cf : CF) (i : Nat) : Prop := ∀ d, Pl d → cf i [d] = ret (.bool (isIntD d))
abbrev PairOk (cf : CF) (i : Nat) : Prop := ∀ ns d, Pl d → cf i [szD ns, d] = ret (.bool (isPairD ns d))
abbrev CombOk (cf : CF) (i : Nat) : Prop := ∀ ns d, Pl d → cf i [szD ns, d] = ret (.bool (isCombD ns d))
theorem ev_is_combination_of {cf : CF} {ia ip : Nat} (fu : Nat) (hA : AscOk cf ia) (hP : PairOk cf ip) (ns : List Int) {d : D} (h : Pl d) : runF cf fu (f_is_combination_of ia ip) [szD ns, d] = ret (.bool (isCombD ns d)) := by
  rw [run_code cf fu (f := f_is_combination_of ia ip) rfl (s0 := [some (.i (szD ns)), some (.i d), none]) rfl]
  cases d with
  | dict kvs => exact (pl_dict h).elim
  | tuple xs =>
    have hx := pl_tuple h
    have c1 : evE cf (.comp (.call ip (.cons (.var 0) (.cons (.var 2) .nil))) (.name 2) (.seq (.var 1)) .yes [2]) [some (.i (szD ns)), some (.i (.tuple xs)), none] = ret (.list (xs.map fun x => .bool (isPairD ns x))) := by
      refine ev_compM (fun x => x) xs (fun x => .bool (isPairD ns x)) (by simp [getI, seqD]) fun x hx' => ?_
      simp [turnC, wipeA, bindT, getI, hP ns x (hx x hx')]
    simp only [f_is_combination_of, b_cons, s_ife, t_or, t_not, t_val, e_isi, e_pk, e_bi, t_cmp, e_tup, es_nil, c1]
    simp only [getP, isiD, biD, truD, allD_map, List.getElem?_cons_succ, List.getElem?_cons_zero, m_lift, m_bnd, m_assoc, List.length_nil, Nat.zero_le, if_true, op_eq h pl_nil, Option.bind_some, boolD_b, eqv_nil, Bool.not_true, Bool.false_eq_true, if_false]
    by_cases he : xs.isEmpty = true
    · simp [he, isCombD]
    · have he : xs.isEmpty = false := by simpa using he
      by_cases ha : xs.all (isPairD ns) = true
      · obtain ⟨ps, rfl⟩ := pairs_shape ha
        have c2 : evE cf (.comp (.ix (.pk 2) (.int 0)) (.name 2) (.seq (.var 1)) .yes [2]) [some (.i (szD ns)), some (.i (.tuple (ps.map prI))), none] = ret (.list (ps.map fun p => .int p.1)) := by
          refine ev_compM prI ps (fun p => .int p.1) (by simp [getI, seqD]) fun p _ => ?_
          simp [turnC, wipeA, bindT, getP, prI, ixD, ixI]
        have e1 : ps.map (fun p => PyData.int p.1) = (ps.map (·.1)).map .int := by rw [List.map_map]; rfl
        have e2 : (ps.map prI).map fstD = ps.map fun p => .int p.1 := by rw [List.map_map]; rfl
        simp only [he, ha, Bool.not_true, Bool.false_eq_true, if_false, b_nil, m_bnd, at_nx, b_cons, s_ret, e_call, es_cons, es_nil, c2, m_assoc]
        rw [e1, (hA _ (cmp_ints _)).2]
        simp [isCombD, he, ha, e2, e1]
      · simp [he, ha, isCombD]
  | _ => rfl
/-! ### is_model -/
def sizeOk : D → Bool
  | .int n => decide (2 ≤ n) && decide (n ≤ 4)
  | _ => false
def toI : D → Int
  | .int n => n
  | _ => 0
def isModelD : D → Bool
  | .tuple [.tuple ss, .tuple fs] => decide (2 ≤ ss.length) && decide (ss.length ≤ 5) && ss.all sizeOk && decide (fs.length ≤ 8) && fs.all (isCombD (ss.map toI)) && ascB fs
  | _ => false
theorem sizes_shape : ∀ {ss : List D}, ss.all sizeOk = true → ss = (ss.map toI).map .int
  | [], _ => rfl
  | x :: ss, h => by
    rw [List.all_cons, Bool.and_eq_true] at h
    have e : x = .int (toI x) := by
      cases x with
      | int n => rfl
      | _ => cases h.1
    rw [List.map_cons, List.map_cons, ← sizes_shape h.2, ← e]
theorem alike_prs : ∀ ps qs : List (Int × Int), PySem.W.alikeAll (ps.map prI) (qs.map prI) = true
  | [], _ => by simp [PySem.W.alikeAll]
  | _ :: _, [] => by simp [PySem.W.alikeAll]
  | p :: ps, q :: qs => by
    rw [List.map_cons, List.map_cons, PySem.W.alikeAll, alike_prs ps qs]
    rfl
theorem comb_shape {ns : List Int} {d : D} (h : isCombD ns d = true) : ∃ ps : List (Int × Int), d = .tuple (ps.map prI) := by
  cases d with
  | tuple xs =>
    simp only [isCombD, Bool.and_eq_true] at h
    obtain ⟨ps, e⟩ := pairs_shape h.1.2
    exact ⟨ps, by rw [e]⟩
  | _ => cases h
theorem cmp_combs {ns : List Int} {fs : List D} (hp : ∀ x ∈ fs, Pl x) (h : fs.all (isCombD ns) = true) : cmpOk fs := fun x hx => by
  have h' := List.all_eq_true.mp h
  obtain ⟨ps, rfl⟩ := comb_shape (h' x hx)
  refine ⟨hp _ hx, rfl, fun y hy => ?_⟩
  obtain ⟨qs, rfl⟩ := comb_shape (h' y hy)
  rw [PySem.W.alike]
  exact alike_prs ps qs
theorem ev_is_model {cf : CF} {ia ic ii : Nat} (fu : Nat) (hA : AscOk cf ia) (hC : CombOk cf ic) (hI : IntOk cf ii) {d : D} (h : Pl d) : runF cf fu (f_is_model ia ic ii) [d] = ret (.bool (isModelD d)) := by
  rw [run_code cf fu (f := f_is_model ia ic ii) rfl (s0 := [some (.i d), none, none, none, none]) rfl]
  cases d with
  | dict kvs => exact (pl_dict h).elim
  | tuple xs =>
    have hx := pl_tuple h
    simp only [f_is_model, b_cons, s_ife, t_or, t_not, t_val, e_isi, e_pk, e_bi, t_cmp, e_int, e_ix]
    simp only [getP, isiD, biD, lenD, truD, List.getElem?_cons_succ, List.getElem?_cons_zero, m_lift, m_bnd, m_assoc, ne_int, Bool.not_true, if_false, Bool.false_eq_true]
    by_cases hl : xs.length = 2
    · match xs, hl with
      | [a, f], _ =>
        have ha := hx a (by simp)
        have hf := hx f (by simp)
        cases a with
        | dict kvs => exact (pl_dict ha).elim
        | tuple ss =>
          have hs := pl_tuple ha
          have c1 : evE cf (.comp (.and (.call ii (.cons (.var 3) .nil)) (.chain .le .le (.int 2) (.pk 3) (.int 4))) (.name 3) (.seq (.var 1)) .yes [3]) [some (.i (.tuple [.tuple ss, f])), some (.i (.tuple ss)), some (.i f), none, none] = ret (.list (ss.map fun x => .bool (sizeOk x))) := by
            refine ev_compM (fun x => x) ss (fun x => .bool (sizeOk x)) (by simp [getI, seqD]) fun x hx' => ?_
            have hpx := hs x hx'
            cases x with
            | dict kvs => exact (pl_dict hpx).elim
            | int n =>
              simp only [turnC, wipeA, bindT, List.map_cons, List.map_nil, List.length_set, List.length_cons, List.length_nil, List.set_cons_succ, List.set_cons_zero]
              simp [getI, getP, hI _ hpx, isIntD, sizeOk]
              by_cases h2 : 2 ≤ n <;> simp [h2]
            | _ =>
              simp only [turnC, wipeA, bindT, List.map_cons, List.map_nil, List.length_set, List.length_cons, List.length_nil, List.set_cons_succ, List.set_cons_zero]
              simp [getI, getP, hI _ hpx, isIntD, sizeOk]
          have e0 : ((([PyData.tuple ss, f].length : Nat) : Int) == 2) = true := rfl
          have e5 : bindT (.tup (.cons (.name 1) (.cons (.name 2) .nil))) (.tuple [.tuple ss, f]) [some (.i (.tuple [.tuple ss, f])), none, none, none, none] = some [some (.i (.tuple [.tuple ss, f])), some (.i (.tuple ss)), some (.i f), none, none] := rfl
          simp only [e0, Bool.not_true, Bool.false_eq_true, if_false, (ixD2 _ _).1, m_lift, m_bnd, isiD, truD, b_nil, at_nx, b_cons, s_set, e_var, getI, List.getElem?_cons_zero, e5, s_ife, t_or, t_not, t_chain, t_val, e_bi, e_int, e_pk, getP, List.getElem?_cons_succ, biD, lenD, op_le, Option.bind_some, boolD_b, c1, allD_map, m_assoc, e_isi, t_cmp, e_gint]
          have hm0 : ∀ b : Bool, isModelD (.tuple [.tuple ss, f]) = false → b = false → (ret (.bool false) : M D) = ret (.bool (isModelD (.tuple [.tuple ss, f]))) := fun b h _ => by rw [h]
          by_cases h2 : 2 ≤ ss.length
          · by_cases h5 : ss.length ≤ 5
            · by_cases hss : ss.all sizeOk = true
              · have i2 : decide ((2 : Int) ≤ (ss.length : Int)) = true := decide_eq_true (by omega)
                have i5 : decide ((ss.length : Int) ≤ 5) = true := decide_eq_true (by omega)
                simp only [i2, i5, hss, if_true, m_bnd, Bool.not_true, Bool.false_eq_true, if_false, b_nil, at_nx, b_cons, s_ife, t_or, t_not, t_val, e_isi, e_pk, getP, List.getElem?_cons_succ, List.getElem?_cons_zero, m_lift, m_assoc]
                cases f with
                | dict kvs => exact (pl_dict hf).elim
                | tuple fs =>
                  have hfs := pl_tuple hf
                  have esz : PyData.tuple ss = szD (ss.map toI) := by
                    unfold szD
                    rw [← sizes_shape hss]
                  have c2 : evE cf (.comp (.call ic (.cons (.var 1) (.cons (.var 4) .nil))) (.name 4) (.seq (.var 2)) .yes [4]) [some (.i (.tuple [.tuple ss, .tuple fs])), some (.i (.tuple ss)), some (.i (.tuple fs)), none, none] = ret (.list (fs.map fun x => .bool (isCombD (ss.map toI) x))) := by
                    refine ev_compM (fun x => x) fs (fun x => .bool (isCombD (ss.map toI) x)) (by simp [getI, seqD]) fun x hx' => ?_
                    have := hC (ss.map toI) x (hfs x hx')
                    rw [← esz] at this
                    simp [turnC, wipeA, bindT, getI, this]
                  simp only [isiD, m_lift, m_bnd, truD, Bool.not_true, Bool.false_eq_true, if_false, t_cmp, e_bi, e_pk, getP, List.getElem?_cons_succ, List.getElem?_cons_zero, biD, lenD, e_gint, op_gt, Option.bind_some, boolD_b, m_assoc]
                  by_cases h8 : fs.length ≤ 8
                  · have i8 : decide ((8 : Int) < (fs.length : Int)) = false := decide_eq_false (by omega)
                    simp only [i8, Bool.false_eq_true, if_false, b_nil, m_bnd, at_nx, b_cons, s_ret, e_and, e_bi, c2, biD, allD_map, m_lift, boolD_b, m_assoc]
                    by_cases hc : fs.all (isCombD (ss.map toI)) = true
                    · have := (hA fs (cmp_combs hfs hc)).1
                      simp [hc, getI, this, isModelD, h2, h5, hss, h8]
                    · simp [hc, isModelD]
                  · have i8 : decide ((8 : Int) < (fs.length : Int)) = true := decide_eq_true (by omega)
                    simp [i8, isModelD, h8]
                | _ => rfl
              · have i2 : decide ((2 : Int) ≤ (ss.length : Int)) = true := decide_eq_true (by omega)
                have i5 : decide ((ss.length : Int) ≤ 5) = true := decide_eq_true (by omega)
                have hm : isModelD (.tuple [.tuple ss, f]) = false := by
                  unfold isModelD
                  split
                  · rename_i q
                    cases q
                    simp [hss]
                  · rfl
                simp [i2, i5, hss, hm]
            · have i5 : decide ((ss.length : Int) ≤ 5) = false := decide_eq_false (by omega)
              have hm : isModelD (.tuple [.tuple ss, f]) = false := by
                unfold isModelD
                split
                · rename_i q
                  cases q
                  simp [h5]
                · rfl
              simp [i5, hm]
          · have i2 : decide ((2 : Int) ≤ (ss.length : Int)) = false := decide_eq_false (by omega)
            have hm : isModelD (.tuple [.tuple ss, f]) = false := by
              unfold isModelD
              split
              · rename_i q
                cases q
                simp [h2]
              · rfl
            simp [i2, hm]
        | _ => rfl
    · have e : ((xs.length : Int) == 2) = false := by
        rw [beq_eq_false_iff_ne]
        omega
      simp only [e]
      have er : isModelD (.tuple xs) = false := by
        unfold isModelD
        split
        · rename_i q
          cases q
          exact absurd rfl hl
        · rfl
      rw [er]
      rfl
  | _ => rfl
end Ev

set_option Elab.async false
set_option linter.all false
set_option maxRecDepth 100000
set_option autoImplicit false
/-! EvH: code that draws: what holds behind it. -/
namespace Ev
open PySem
/-- from I the code ends well, keeps I, and its answer has P -/
def Ho {α : Type} (I : W → Prop) (x : M α) (P : α → Prop) : Prop := ∀ w, I w → ∃ a w', x w = .ok a w' ∧ I w' ∧ P a
section
variable {α β : Type} {I : W → Prop}
theorem Ho.ret {a : α} {P : α → Prop} (h : P a) : Ho I (ret a) P := fun w hw => ⟨a, w, rfl, hw, h⟩
theorem Ho.of {x : M α} {a : α} {P : α → Prop} (e : x = Ev.ret a) (h : P a) : Ho I x P := e ▸ Ho.ret h
theorem Ho.bnd {x : M α} {f : α → M β} {P : α → Prop} {Q : β → Prop} (h : Ho I x P) (k : ∀ a, P a → Ho I (f a) Q) : Ho I (Ev.bnd x f) Q := fun w hw => by
  obtain ⟨a, w1, e1, h1, p1⟩ := h w hw
  obtain ⟨c, w2, e2, h2, p2⟩ := k a p1 w1 h1
  exact ⟨c, w2, (bnd_ok e1).trans e2, h2, p2⟩
theorem Ho.imp {x : M α} {P Q : α → Prop} (h : Ho I x P) (k : ∀ a, P a → Q a) : Ho I x Q := fun w hw => by
  obtain ⟨a, w1, e1, h1, p1⟩ := h w hw
  exact ⟨a, w1, e1, h1, k a p1⟩
theorem Ho.nox {x : M α} {P : α → Prop} (h : Ho I x P) : Ho I (Ev.nox x) P := fun w hw => by
  obtain ⟨a, w1, e1, h1, p1⟩ := h w hw
  exact ⟨a, w1, nox_ok e1, h1, p1⟩
/-- a comprehension that keeps every item -/
theorem ho_comp {f : D → M (Option D)} {P : D → Prop} : ∀ (ds : List D), (∀ d ∈ ds, Ho I (f d) fun o => ∃ x, o = some x ∧ P x) → Ho I (compL f ds) fun xs => xs.length = ds.length ∧ ∀ x ∈ xs, P x
  | [], _ => Ho.ret ⟨rfl, fun x hx => nomatch hx⟩
  | d :: ds, h => by
    rw [compL]
    refine (h d List.mem_cons_self).bnd fun o ⟨x, e, px⟩ => (ho_comp ds fun d' hd' => h d' (List.mem_cons_of_mem _ hd')).bnd fun r ⟨hl, hr⟩ => ?_
    subst e
    refine Ho.ret ⟨by rw [List.length_cons, List.length_cons, hl], fun y hy => ?_⟩
    rcases List.mem_cons.mp hy with e | hy
    · rw [e]; exact px
    · exact hr y hy
/-- a comprehension that keeps some items as they are -/
theorem ho_filter {f : D → M (Option D)} : ∀ (ds : List D), (∀ d ∈ ds, Ho I (f d) fun o => o = none ∨ o = some d) → Ho I (compL f ds) fun xs => xs.Sublist ds
  | [], _ => Ho.ret (List.Sublist.refl _)
  | d :: ds, h => by
    rw [compL]
    refine (h d List.mem_cons_self).bnd fun o ho => (ho_filter ds fun d' hd' => h d' (List.mem_cons_of_mem _ hd')).bnd fun r hr => ?_
    rcases ho with e | e
    · subst e; exact Ho.ret (hr.cons d)
    · subst e; exact Ho.ret (hr.cons₂ d)
/-- a loop, by a word of the slots at each turn -/
theorem ho_for {f : D → Sl → M Fl} (J : Nat → Sl → Prop) : ∀ (ds : List D) (i : Nat) (s : Sl), J i s →
    (∀ (k : Nat) (d : D) (s : Sl), ds[k]? = some d → J (i + k) s → Ho I (f d s) fun r => (∃ s', r = .nx s' ∧ J (i + k + 1) s') ∨ ∃ s', r = .ct s' ∧ J (i + k + 1) s') → Ho I (forL f ds s) fun r => ∃ s', r = .nx s' ∧ J (i + ds.length) s'
  | [], i, s, h, _ => Ho.ret ⟨s, rfl, h⟩
  | d :: ds, i, s, h, step => by
    rw [forL]
    refine (step 0 d s rfl h).bnd fun r hr => ?_
    have go : ∀ s', J (i + 1) s' → Ho I (forL f ds s') fun r => ∃ s', r = .nx s' ∧ J (i + (d :: ds).length) s' := fun s' hs' => by
      refine (ho_for J ds (i + 1) s' hs' fun k d' s'' hk hJ => ?_).imp fun r ⟨s'', e, q⟩ => ⟨s'', e, by rw [List.length_cons, show i + (ds.length + 1) = i + 1 + ds.length by omega]; exact q⟩
      have := step (k + 1) d' s'' hk (by rw [show i + (k + 1) = i + 1 + k by omega]; exact hJ)
      rw [show i + (k + 1) + 1 = i + 1 + k + 1 by omega] at this
      exact this
    rcases hr with ⟨s', e, hs'⟩ | ⟨s', e, hs'⟩
    · subst e; exact go s' hs'
    · subst e; exact go s' hs'
end
/-! ### the town -/
def TownOk (rs : List (Int × Int)) : Prop := (rs.map (·.1)).Nodup ∧ ∀ p ∈ rs, 0 ≤ p.1 ∧ p.1 < 64
def Tn (w : W) : Prop := ∃ c rs tl, w = .town c rs :: tl ∧ TownOk rs
theorem town_len {rs : List (Int × Int)} (h : TownOk rs) : rs.length < 1000 := by
  have h1 : (rs.map fun p => p.1.toNat).Nodup := by
    have := h.1
    rw [List.Nodup, List.pairwise_map] at this ⊢
    refine List.Pairwise.imp_of_mem (fun {a b} ha hb hne e => hne ?_) this
    have := (h.2 a ha).1
    have := (h.2 b hb).1
    omega
  have h2 := L2.nat_nodup_len _ (List.range 64) h1 fun x hx => by
    obtain ⟨p, hp, rfl⟩ := List.mem_map.mp hx
    have := h.2 p hp
    exact List.mem_range.mpr (by omega)
  rw [List.length_map, List.length_range] at h2
  omega
theorem putI_ok {rs : List (Int × Int)} {x v : Int} (h : TownOk rs) (h0 : 0 ≤ x) (h1 : x < 64) : TownOk (putI rs x v) := by
  unfold putI
  split
  · have e : (rs.map fun p => if p.1 = x then (p.1, v) else p).map (·.1) = rs.map (·.1) := by
      rw [List.map_map]
      refine List.map_congr_left fun p _ => ?_
      show (if p.1 = x then (p.1, v) else p).1 = p.1
      split <;> rfl
    refine ⟨by rw [e]; exact h.1, fun p hp => ?_⟩
    obtain ⟨q, hq, rfl⟩ := List.mem_map.mp hp
    have := h.2 q hq
    split <;> exact this
  · rename_i hn
    refine ⟨?_, fun p hp => ?_⟩
    · rw [List.map_append, List.map_cons, List.map_nil]
      refine List.nodup_append.mpr ⟨h.1, by simp, fun a ha b hb e => ?_⟩
      rw [List.mem_singleton] at hb
      subst hb
      subst e
      obtain ⟨p, hp, e⟩ := List.mem_map.mp ha
      exact hn (List.any_eq_true.mpr ⟨p, hp, by simp [e]⟩)
    · rcases List.mem_append.mp hp with q | q
      · exact h.2 p q
      · rw [List.mem_singleton] at q
        subst q
        exact ⟨h0, h1⟩
/-- the contract of _law_draw -/
abbrev DrawOk (cf : CF) (i : Nat) : Prop := ∀ many : Int, 0 < many → many < 1073741824 → Ho Tn (cf i [scrD, obD 0, .int many]) fun d => ∃ r, d = .int r ∧ 0 ≤ r ∧ r < many
theorem draw_ok {ns : List Int} (hl : ns.length ≤ 63) {many : Int} (h0 : 0 < many) (h1 : many < 1073741824) : Ho Tn (drawP ns [scrD, obD 0, .int many]) fun d => ∃ r, d = .int r ∧ 0 ≤ r ∧ r < many := by
  intro w ⟨c, rs, tl, e, ht⟩
  subst e
  have hlen := town_len ht
  have e1 : drawP ns [scrD, obD 0, .int many] (.town c rs :: tl) = drawT ns c rs many 0 (.town c rs :: tl) := by
    show (if 0 < many ∧ many < 1073741824 ∧ rs.length < 1000 then drawT ns c rs many 0 else bad) (MO.town c rs :: tl) = _
    rw [if_pos (show 0 < many ∧ many < 1073741824 ∧ rs.length < 1000 from ⟨h0, h1, hlen⟩)]
  rw [e1]
  refine ⟨_, _, rfl, ?_, _, rfl, ?_, ?_⟩
  · refine ⟨c + 1, _, tl, rfl, ?_⟩
    split
    · refine putI_ok ht ?_ ?_
      · unfold atS
        split
        · decide
        · rename_i hn
          exact Int.emod_nonneg _ (by have := List.length_pos_iff.mpr hn; omega)
      · unfold atS
        split
        · decide
        · rename_i hn
          have := Int.emod_lt_of_pos (c + 1) (b := (ns.length : Int)) (by have := List.length_pos_iff.mpr hn; omega)
          omega
    · exact ht
  · unfold drawR
    split <;> exact Int.emod_nonneg _ (by omega)
  · unfold drawR
    split <;> exact Int.emod_lt_of_pos _ h0
end Ev

set_option Elab.async false
set_option linter.all false
set_option maxRecDepth 100000
set_option autoImplicit false
/-! EvL1: what the laws draw: combinations, models. -/
namespace Ev
open PySem
/-! ### combinations -/
def cbD (c : List (Int × Int)) : D := .tuple (c.map prI)
structure CbOk (ns : List Int) (c : List (Int × Int)) : Prop where
  ne : c ≠ []
  rng : ∀ p ∈ c, 0 ≤ p.1 ∧ p.1 < ns.length ∧ 0 ≤ p.2 ∧ p.2 < ns.getD p.1.toNat 0
  asc : c.Pairwise fun a b => a.1 < b.1
theorem asc_ints : ∀ is : List Int, ascB (is.map .int) = true ↔ is.Pairwise (· < ·)
  | [] => by simp [ascB]
  | [x] => by simp [ascB]
  | x :: y :: r => by
    have ih := asc_ints (y :: r)
    rw [List.map_cons] at ih
    rw [List.map_cons, List.map_cons, ascB, Bool.and_eq_true, ih, PySem.W.dataLt_int, decide_eq_true_eq, List.pairwise_cons (a := x)]
    constructor
    · rintro ⟨h1, h2⟩
      refine ⟨fun z hz => ?_, h2⟩
      rcases List.mem_cons.mp hz with e | hz
      · rw [e]; exact h1
      · exact Int.lt_trans h1 ((List.pairwise_cons.mp h2).1 z hz)
    · rintro ⟨h1, h2⟩
      exact ⟨h1 y List.mem_cons_self, h2⟩
theorem isPair_iff {ns : List Int} {p : Int × Int} : isPairD ns (prI p) = true ↔ 0 ≤ p.1 ∧ p.1 < ns.length ∧ 0 ≤ p.2 ∧ p.2 < ns.getD p.1.toNat 0 := by
  show (decide (0 ≤ p.1) && decide (p.1 < ns.length) && decide (0 ≤ p.2) && decide (p.2 < ns.getD p.1.toNat 0)) = true ↔ _
  simp only [Bool.and_eq_true, decide_eq_true_eq]
  exact ⟨fun h => ⟨h.1.1.1, h.1.1.2, h.1.2, h.2⟩, fun h => ⟨⟨⟨h.1, h.2.1⟩, h.2.2.1⟩, h.2.2.2⟩⟩
theorem isComb_iff {ns : List Int} {c : List (Int × Int)} : isCombD ns (cbD c) = true ↔ CbOk ns c := by
  have e : (c.map prI).map fstD = (c.map (·.1)).map .int := by rw [List.map_map, List.map_map]; rfl
  simp only [isCombD, cbD, Bool.and_eq_true, e, asc_ints, List.pairwise_map, List.all_map, List.all_eq_true, Function.comp_def, isPair_iff, Bool.not_eq_true']
  constructor
  · rintro ⟨⟨h1, h2⟩, h3⟩
    exact ⟨fun e => by rw [e] at h1; simp at h1, h2, h3⟩
  · intro h
    refine ⟨⟨?_, h.rng⟩, h.asc⟩
    have := h.ne
    cases c with
    | nil => exact absurd rfl this
    | cons _ _ => rfl
theorem cb_len {ns : List Int} {c : List (Int × Int)} (h : CbOk ns c) : c.length ≤ ns.length := by
  have h1 : (c.map fun p => p.1.toNat).Nodup := by
    rw [List.Nodup, List.pairwise_map]
    refine List.Pairwise.imp_of_mem (fun {a b} ha hb hlt e => ?_) h.asc
    have := (h.rng a ha).1
    have := (h.rng b hb).1
    omega
  have h2 := L2.nat_nodup_len _ (List.range ns.length) h1 fun x hx => by
    obtain ⟨p, hp, rfl⟩ := List.mem_map.mp hx
    have := h.rng p hp
    exact List.mem_range.mpr (by omega)
  rw [List.length_map, List.length_range] at h2
  exact h2
/-! ### the dict of a combination -/
def kvI (ps : List (Int × Int)) : List (D × D) := ps.map fun p => (.int p.1, .int p.2)
theorem putD_kv (ps : List (Int × Int)) (x v : Int) : putD (.int x) (.int v) (kvI ps) = kvI (putI ps x v) := by
  have ea : ((kvI ps).any fun p => PyData.eqv p.1 (.int x)) = ps.any fun p => decide (p.1 = x) := by
    unfold kvI
    rw [List.any_map]
    have : ((fun p : D × D => PyData.eqv p.1 (.int x)) ∘ fun p : Int × Int => ((.int p.1 : D), (.int p.2 : D))) = fun p => decide (p.1 = x) := by
      funext p
      show PyData.eqv (.int p.1) (.int x) = _
      rw [Bool.eq_iff_iff]
      simp [PyData.eqv]
    rw [this]
  unfold putD putI
  rw [ea]
  split
  · unfold kvI
    rw [List.map_map, List.map_map]
    refine List.map_congr_left fun p _ => ?_
    show (if PyData.eqv (.int p.1) (.int x) = true then ((.int p.1 : D), (.int v : D)) else (.int p.1, .int p.2)) = _
    by_cases h : p.1 = x
    · simp [PyData.eqv, h]
    · simp [PyData.eqv, h]
  · unfold kvI
    rw [List.map_append]
    rfl
theorem putI_mem {ps : List (Int × Int)} {x v : Int} {q : Int × Int} (h : q ∈ putI ps x v) : q ∈ ps ∨ q = (x, v) := by
  unfold putI at h
  split at h
  · obtain ⟨p, hp, e⟩ := List.mem_map.mp h
    split at e
    · rename_i hx
      right
      rw [← e, hx]
    · left
      rw [← e]
      exact hp
  · rcases List.mem_append.mp h with q' | q'
    · exact .inl q'
    · exact .inr (List.mem_singleton.mp q')
theorem putI_nodup {ps : List (Int × Int)} {x v : Int} (h : (ps.map (·.1)).Nodup) : ((putI ps x v).map (·.1)).Nodup := by
  unfold putI
  split
  · have e : (ps.map fun p => if p.1 = x then (p.1, v) else p).map (·.1) = ps.map (·.1) := by
      rw [List.map_map]
      refine List.map_congr_left fun p _ => ?_
      show (if p.1 = x then (p.1, v) else p).1 = p.1
      split <;> rfl
    rw [e]
    exact h
  · rename_i hn
    rw [List.map_append, List.map_cons, List.map_nil]
    refine List.nodup_append.mpr ⟨h, by simp, fun a ha b hb e => ?_⟩
    rw [List.mem_singleton] at hb
    subst hb
    subst e
    obtain ⟨p, hp, e⟩ := List.mem_map.mp ha
    exact hn (List.any_eq_true.mpr ⟨p, hp, by simp [e]⟩)
theorem putI_ne (ps : List (Int × Int)) (x v : Int) : putI ps x v ≠ [] := by
  unfold putI
  split
  · rename_i h
    intro e
    rw [List.map_eq_nil_iff] at e
    rw [e] at h
    simp at h
  · simp
theorem putI_len (ps : List (Int × Int)) (x v : Int) : (putI ps x v).length ≤ ps.length + 1 := by
  unfold putI
  split
  · rw [List.length_map]; omega
  · rw [List.length_append]; exact Nat.le_refl _
/-- what sorted makes of the pairs -/
theorem sort_prs (ps : List (Int × Int)) (h : (ps.map (·.1)).Nodup) : ∃ c : List (Int × Int), c.Perm ps ∧ sortD (ps.map prI) = c.map prI ∧ c.Pairwise fun a b => a.1 < b.1 := by
  obtain ⟨c, pc, e⟩ := perm_of_map prI (sortD_perm (ps.map prI))
  refine ⟨c, pc, e, ?_⟩
  have hs := sortD_sorted (ps.map prI)
  rw [e, List.pairwise_map] at hs
  have hn : (c.map (·.1)).Nodup := (pc.map (·.1)).nodup_iff.mpr h
  rw [List.Nodup, List.pairwise_map] at hn
  refine (hs.and hn).imp fun {a b} ⟨h1, h2⟩ => ?_
  rw [leS_eq, Bool.not_eq_true'] at h1
  have h1 : PySem.W.dataLt (.tuple [.int b.1, .int b.2]) (.tuple [.int a.1, .int a.2]) = false := h1
  rw [PySem.W.dataLt_ii, decide_eq_false_iff_not] at h1
  omega
/-! ### _law_combination -/
abbrev CombinOk (cf : CF) (i : Nat) : Prop := ∀ (ns : List Int) (most : Int), ns ≠ [] → (∀ n ∈ ns, 0 < n ∧ n < 1000) → ns.length < 1000 → 0 < most → most < 1000 → Ho Tn (cf i [scrD, obD 0, szD ns, .int most]) fun d => ∃ c, d = cbD c ∧ CbOk ns c ∧ (c.length : Int) ≤ most
/-- between the turns -/
def JC (ns : List Int) (most : Int) (k : Nat) (s : Sl) : Prop := ∃ ps x5 x6, s = [some (.i scrD), some (.i (obD 0)), some (.i (szD ns)), some (.i (.int most)), some (.m (kvI ps)), x5, x6] ∧ (ps.map (·.1)).Nodup ∧ (∀ p ∈ ps, 0 ≤ p.1 ∧ p.1 < ns.length ∧ 0 ≤ p.2 ∧ p.2 < ns.getD p.1.toNat 0) ∧ (0 < k → ps ≠ []) ∧ ps.length ≤ k
theorem range_ok {n : Int} (h0 : 0 ≤ n) (h1 : n < 16777216) : rangeD 0 n = some ((List.range n.toNat).map fun (k : Nat) => .int k) := by
  unfold rangeD
  rw [if_pos ⟨by omega, by omega, by omega, by omega, by unfold LIM; omega⟩]
  simp
theorem len_sz (ns : List Int) : lenD (szD ns) = some (.int ns.length) := by simp [szD, lenD]
theorem getD_mem {ns : List Int} {p : Int} (h0 : 0 ≤ p) (h1 : p < ns.length) : ns.getD p.toNat 0 ∈ ns := by
  have hl : p.toNat < ns.length := by omega
  rw [List.getD_eq_getElem?_getD, List.getElem?_eq_getElem hl]
  exact List.getElem_mem hl
theorem keys_kv (ps : List (Int × Int)) : ((kvI ps).all fun p => keyOk p.1) = true := by
  unfold kvI
  rw [List.all_map]
  exact List.all_eq_true.mpr fun p _ => rfl
theorem ky_kv (x : Int) (ps : List (Int × Int)) : kyOk (.int x) (kvI ps) = true := by
  unfold kyOk
  rw [keys_kv ps]
  rfl
theorem ev_law_combination {cf : CF} {i : Nat} (fu : Nat) (hD : DrawOk cf i) (ns : List Int) (most : Int) (hne : ns ≠ []) (hn : ∀ n ∈ ns, 0 < n ∧ n < 1000) (hnl : ns.length < 1000) (hm : 0 < most) (hm2 : most < 1000) :
    Ho Tn (runF cf fu (f_law_combination i) [scrD, obD 0, szD ns, .int most]) fun d => ∃ c, d = cbD c ∧ CbOk ns c ∧ (c.length : Int) ≤ most := by
  rw [run_code cf fu (f := f_law_combination i) rfl (s0 := [some (.i scrD), some (.i (obD 0)), some (.i (szD ns)), some (.i (.int most)), none, none, none]) rfl]
  simp [f_law_combination, mutS]
  refine (hD most hm (by omega)).bnd fun d ⟨r, e, r0, r1⟩ => ?_
  subst e
  simp only [op_add, m_lift, m_bnd, intD, range_ok (n := 1 + r) (by omega) (by omega)]
  refine (ho_for (JC ns most) _ 0 _ ⟨[], none, none, rfl, List.nodup_nil, fun p hp => (nomatch hp), fun h => absurd h (Nat.lt_irrefl _), Nat.le_refl _⟩ fun k d s hk ⟨ps, x5, x6, es, h1, h2, h3, h4⟩ => ?_).bnd fun fl ⟨s', ef, ps, x5, x6, es, h1, h2, h3, h4⟩ => ?_
  · subst es
    have hkr : k < (1 + r).toNat := by
      have := (List.getElem?_eq_some_iff.mp hk).1
      rw [List.length_map, List.length_range] at this
      exact this
    simp [turnF, bindT, biD, len_sz]
    have hpos := List.length_pos_iff.mpr hne
    refine (hD ns.length (by omega) (by omega)).bnd fun dp ⟨q, e, q0, q1⟩ => ?_
    subst e
    rw [ixD_sz q0 q1, m_lift, m_bnd]
    obtain ⟨m0, m1⟩ := hn _ (getD_mem q0 q1)
    refine (hD _ m0 (by omega)).bnd fun dv ⟨v, e, v0, v1⟩ => ?_
    subst e
    have hl : (kvI ps).length < LIM := by
      unfold kvI LIM
      rw [List.length_map]
      omega
    rw [if_pos ⟨ky_kv q ps, hl⟩, putD_kv, m_bnd, at_nx, b_nil]
    refine Ho.ret (.inl ⟨_, rfl, putI ps q v, _, _, rfl, putI_nodup h1, fun p hp => ?_, fun _ => putI_ne _ _ _, Nat.le_trans (putI_len _ _ _) (by omega)⟩)
    rcases putI_mem hp with z | z
    · exact h2 p z
    · rw [z]; exact ⟨q0, q1, v0, v1⟩
  · subst ef es
    obtain ⟨c, pc, ec, hc⟩ := sort_prs ps h1
    have e1 : ((kvI ps).all fun p => isInt p.1 && isInt p.2) = true := by
      unfold kvI
      rw [List.all_map]
      exact List.all_eq_true.mpr fun p _ => rfl
    rw [List.length_map, List.length_range] at h3 h4
    have e2 : sitemsD (.dict (kvI ps)) = some (.list (c.map prI)) := by
      have hl : (kvI ps).length ≤ LIM := by
        unfold kvI LIM
        rw [List.length_map]
        omega
      show (if _ then _ else _) = _
      rw [if_pos (by rw [e1, decide_eq_true hl]; rfl)]
      have : (kvI ps).map pairD = ps.map prI := by unfold kvI; rw [List.map_map]; rfl
      rw [this, ec]
    simp [biD, e2, tupleD]
    refine Ho.ret ⟨c, rfl, ⟨fun e => h3 (by omega) ?_, fun p hp => h2 p (pc.mem_iff.mp hp), hc⟩, ?_⟩
    · rw [e] at pc
      exact List.Perm.eq_nil pc.symm
    · rw [pc.length_eq]
      omega
end Ev

set_option Elab.async false
set_option linter.all false
set_option maxRecDepth 100000
set_option autoImplicit false
/-! EvL2: the laws' models. -/
namespace Ev
open PySem
def mdD (ns : List Int) (cs : List (List (Int × Int))) : D := .tuple [szD ns, .tuple (cs.map cbD)]
/-- a model: at most b sizes of at most v values, at most r rules -/
structure MdOk (b v r : Nat) (ns : List Int) (cs : List (List (Int × Int))) : Prop where
  len : 2 ≤ ns.length ∧ ns.length ≤ b
  siz : ∀ n ∈ ns, 2 ≤ n ∧ n ≤ v
  rul : cs.length ≤ r
  cmb : ∀ c ∈ cs, CbOk ns c
  asc : ascB (cs.map cbD) = true
theorem toI_map (ns : List Int) : (ns.map PyData.int).map toI = ns := by rw [List.map_map]; exact List.map_id' ns
theorem isModel_of {b v r : Nat} {ns : List Int} {cs : List (List (Int × Int))} (h : MdOk b v r ns cs) (hb : b ≤ 5) (hv : v ≤ 4) (hr : r ≤ 8) : isModelD (mdD ns cs) = true := by
  show (decide (2 ≤ (ns.map PyData.int).length) && decide ((ns.map PyData.int).length ≤ 5) && (ns.map PyData.int).all sizeOk && decide ((cs.map cbD).length ≤ 8) && (cs.map cbD).all (isCombD ((ns.map PyData.int).map toI)) && ascB (cs.map cbD)) = true
  have h1 := h.len
  have h2 := h.rul
  rw [toI_map, List.length_map, List.length_map, h.asc, Bool.and_true]
  simp only [Bool.and_eq_true, decide_eq_true_eq, List.all_map, List.all_eq_true, Function.comp_def]
  refine ⟨⟨⟨⟨h1.1, by omega⟩, fun n hn => ?_⟩, by omega⟩, fun c hc => isComb_iff.mpr (h.cmb c hc)⟩
  have := h.siz n hn
  simp only [sizeOk, Bool.and_eq_true, decide_eq_true_eq]
  omega
/-! ### data of combinations -/
theorem nk_prs (c : List (Int × Int)) : nkAll (c.map prI) = true := by
  induction c with
  | nil => rfl
  | cons p c ih => rw [List.map_cons, nkAll, ih]; rfl
theorem nk_cb (c : List (Int × Int)) : nkOk (cbD c) = true := nk_prs c
theorem depth_prs (c : List (Int × Int)) : PyData.depthAll (c.map prI) ≤ 1 := by
  rw [depth_all]
  intro x hx
  obtain ⟨p, _, rfl⟩ := List.mem_map.mp hx
  exact Nat.le_refl 1
theorem depth_cb (c : List (Int × Int)) : (cbD c).depth ≤ 2 := by
  show PyData.depthAll (c.map prI) + 1 ≤ 2
  have := depth_prs c
  omega
theorem lay_prs (c : List (Int × Int)) : PyData.canLayAll0 (c.map prI) = true := by
  rw [canLay_all]
  intro x hx
  obtain ⟨p, _, rfl⟩ := List.mem_map.mp hx
  rfl
theorem pl_cb (c : List (Int × Int)) : Pl (cbD c) := pl_iff.mpr ⟨lay_prs c, Nat.le_trans (depth_cb c) (by decide)⟩
theorem alike_cb (c c' : List (Int × Int)) : PySem.W.alike (cbD c) (cbD c') = true := by
  show PySem.W.alike (.tuple (c.map prI)) (.tuple (c'.map prI)) = true
  rw [PySem.W.alike]
  exact alike_prs c c'
theorem prI_inj {p q : Int × Int} (h : prI p = prI q) : p = q := by
  simp only [prI, PyData.tuple.injEq, List.cons.injEq, PyData.int.injEq, and_true] at h
  exact Prod.ext h.1 h.2
theorem map_inj {α β : Type} {f : α → β} (hf : ∀ a b, f a = f b → a = b) : ∀ {l m : List α}, l.map f = m.map f → l = m
  | [], [], _ => rfl
  | [], _ :: _, h => by cases h
  | _ :: _, [], h => by cases h
  | a :: l, b :: m, h => by
    simp only [List.map_cons, List.cons.injEq] at h
    rw [hf a b h.1, map_inj hf h.2]
theorem cbD_inj {c c' : List (Int × Int)} (h : cbD c = cbD c') : c = c' := by
  simp only [cbD, PyData.tuple.injEq] at h
  exact map_inj (fun _ _ => prI_inj) h
/-- sorted without repetition: strictly upwards -/
theorem asc_sorted : ∀ {xs : List D}, (∀ x ∈ xs, nkOk x = true) → (∀ x ∈ xs, ∀ y ∈ xs, PySem.W.alike x y = true) → xs.Pairwise (fun a c => leS a c = true) → xs.Nodup → ascB xs = true
  | [], _, _, _, _ => rfl
  | [_], _, _, _, _ => rfl
  | x :: y :: r, h1, h2, h3, h4 => by
    rw [ascB, Bool.and_eq_true]
    refine ⟨?_, asc_sorted (fun z hz => h1 z (List.mem_cons_of_mem _ hz)) (fun z hz u hu => h2 z (List.mem_cons_of_mem _ hz) u (List.mem_cons_of_mem _ hu)) (List.pairwise_cons.mp h3).2 (List.nodup_cons.mp h4).2⟩
    have hx : x ∈ x :: y :: r := List.mem_cons_self
    have hy : y ∈ x :: y :: r := List.mem_cons_of_mem _ List.mem_cons_self
    have hl := (List.pairwise_cons.mp h3).1 y List.mem_cons_self
    rw [leS_eq, Bool.not_eq_true'] at hl
    cases q : PySem.W.dataLt x y with
    | true => rfl
    | false =>
      exfalso
      have e := eqv_nk x y (h1 x hx) (h1 y hy) (lt_eqv (h2 x hx y hy) q hl)
      exact (List.nodup_cons.mp h4).1 (by rw [e]; exact List.mem_cons_self)
theorem dedD_len : ∀ l : List D, (dedD l).length ≤ l.length
  | [] => Nat.le_refl _
  | x :: xs => by
    have := dedD_len xs
    unfold dedD
    split
    · rw [List.length_cons]; omega
    · rw [List.length_cons, List.length_cons]; omega
/-- sorted(set(..)) of combinations -/
theorem sset_cb (cs : List (List (Int × Int))) (hne : ∀ c ∈ cs, c ≠ []) (hl : cs.length < 64) : ∃ cs' : List (List (Int × Int)), ssetD (.list (cs.map cbD)) = some (.list (cs'.map cbD)) ∧ ascB (cs'.map cbD) = true ∧ (∀ c, c ∈ cs' ↔ c ∈ cs) ∧ cs'.length ≤ cs.length := by
  have nk : ∀ x ∈ cs.map cbD, nkOk x = true := fun x hx => by
    obtain ⟨c, _, rfl⟩ := List.mem_map.mp hx
    exact nk_cb c
  have al : ∀ x ∈ cs.map cbD, ∀ y ∈ cs.map cbD, PySem.W.alike x y = true := fun x hx y hy => by
    obtain ⟨c, _, rfl⟩ := List.mem_map.mp hx
    obtain ⟨c', _, rfl⟩ := List.mem_map.mp hy
    exact alike_cb c c'
  have so : sortOk (cs.map cbD) = true := by
    unfold sortOk
    simp only [Bool.and_eq_true, Bool.or_eq_true, List.all_eq_true]
    refine ⟨⟨al, .inl fun x hx => ?_⟩, fun x hx => ?_⟩
    · obtain ⟨c, hc, rfl⟩ := List.mem_map.mp hx
      have := hne c hc
      cases c with
      | nil => exact absurd rfl this
      | cons p c => rfl
    · obtain ⟨c, _, rfl⟩ := List.mem_map.mp hx
      exact pl_cb c
  have mem : ∀ x, x ∈ sortD (dedD (cs.map cbD)) ↔ x ∈ cs.map cbD := fun x => (sortD_perm _).mem_iff.trans (dedD_mem nk)
  have shape : ∀ l : List D, (∀ x ∈ l, x ∈ cs.map cbD) → ∃ l' : List (List (Int × Int)), l = l'.map cbD := by
    intro l
    induction l with
    | nil => intro _; exact ⟨[], rfl⟩
    | cons x l ih =>
      intro h
      obtain ⟨l', e⟩ := ih fun y hy => h y (List.mem_cons_of_mem _ hy)
      obtain ⟨c, _, ec⟩ := List.mem_map.mp (h x List.mem_cons_self)
      exact ⟨c :: l', by rw [List.map_cons, e, ec]⟩
  obtain ⟨cs', e⟩ := shape (sortD (dedD (cs.map cbD))) fun x hx => (mem x).mp hx
  refine ⟨cs', ?_, ?_, fun c => ?_, ?_⟩
  · show (if _ then _ else _) = _
    rw [if_pos, e]
    simp only [Bool.and_eq_true, List.all_eq_true, decide_eq_true_eq]
    refine ⟨⟨fun x hx => ?_, by rw [List.length_map]; exact hl⟩, so⟩
    obtain ⟨c, _, rfl⟩ := List.mem_map.mp hx
    exact ⟨⟨rfl, nk_cb c⟩, Nat.le_trans (depth_cb c) (by decide)⟩
  · rw [← e]
    refine asc_sorted (fun x hx => nk x ((mem x).mp hx)) (fun x hx y hy => al x ((mem x).mp hx) y ((mem y).mp hy)) (sortD_sorted _) ((sortD_perm _).nodup_iff.mpr (dedD_nodup nk))
  · have h1 := mem (cbD c)
    rw [e] at h1
    constructor
    · intro hc
      obtain ⟨c', hc', ec⟩ := List.mem_map.mp (h1.mp (List.mem_map.mpr ⟨c, hc, rfl⟩))
      rw [← cbD_inj ec]; exact hc'
    · intro hc
      obtain ⟨c', hc', ec⟩ := List.mem_map.mp (h1.mpr (List.mem_map.mpr ⟨c, hc, rfl⟩))
      rw [← cbD_inj ec]; exact hc'
  · have h1 : (sortD (dedD (cs.map cbD))).length = cs'.length := by rw [e, List.length_map]
    rw [← h1, sortD_length]
    have := dedD_len (cs.map cbD)
    rw [List.length_map] at this
    exact this

/-! ### _law_model -/
theorem szD_of {xs : List D} {v : Int} (h : ∀ x ∈ xs, ∃ n : Int, x = .int n ∧ 2 ≤ n ∧ n ≤ v) : ∃ ns : List Int, xs = ns.map .int ∧ ∀ n ∈ ns, 2 ≤ n ∧ n ≤ v := by
  induction xs with
  | nil => exact ⟨[], rfl, fun n hn => (nomatch hn)⟩
  | cons x xs ih =>
    obtain ⟨ns, e, hn⟩ := ih fun y hy => h y (List.mem_cons_of_mem _ hy)
    obtain ⟨n, ex, h2⟩ := h x List.mem_cons_self
    refine ⟨n :: ns, by rw [e, ex]; rfl, fun m hm => ?_⟩
    rcases List.mem_cons.mp hm with z | z
    · rw [z]; exact h2
    · exact hn m z
theorem cbs_of {xs : List D} {P : List (Int × Int) → Prop} (h : ∀ x ∈ xs, ∃ c, x = cbD c ∧ P c) : ∃ cs : List (List (Int × Int)), xs = cs.map cbD ∧ ∀ c ∈ cs, P c := by
  induction xs with
  | nil => exact ⟨[], rfl, fun n hn => (nomatch hn)⟩
  | cons x xs ih =>
    obtain ⟨cs, e, hn⟩ := ih fun y hy => h y (List.mem_cons_of_mem _ hy)
    obtain ⟨c, ex, h2⟩ := h x List.mem_cons_self
    refine ⟨c :: cs, by rw [e, ex]; rfl, fun m hm => ?_⟩
    rcases List.mem_cons.mp hm with z | z
    · rw [z]; exact h2
    · exact hn m z
theorem op_eq_int (a b : Int) : opD .eq (.int a) (.int b) = some (.bool (a == b)) := by
  rw [op_eq (pl_int a) (pl_int b)]
  rfl
abbrev ModelDraw (cf : CF) (i : Nat) : Prop := ∀ b v r : Nat, 2 ≤ b → b < 1000 → 2 ≤ v → v < 1000 → r < 60 → Ho Tn (cf i [scrD, obD 0, .int b, .int v, .int r]) fun d => ∃ ns cs, d = mdD ns cs ∧ MdOk b v r ns cs ∧ ∀ c ∈ cs, c.length ≤ 3
theorem ev_law_model {cf : CF} {ic i : Nat} (fu : Nat) (hD : DrawOk cf i) (hC : CombinOk cf ic) (b v r : Nat) (hb : 2 ≤ b) (hb2 : b < 1000) (hv : 2 ≤ v) (hv2 : v < 1000) (hr : r < 60) :
    Ho Tn (runF cf fu (f_law_model ic i) [scrD, obD 0, .int b, .int v, .int r]) fun d => ∃ ns cs, d = mdD ns cs ∧ MdOk b v r ns cs ∧ ∀ c ∈ cs, c.length ≤ 3 := by
  rw [run_code cf fu (f := f_law_model ic i) rfl (s0 := [some (.i scrD), some (.i (obD 0)), some (.i (.int b)), some (.i (.int v)), some (.i (.int r)), none, none, none, none]) rfl]
  simp [f_law_model, evE_comp, wipeA]
  refine (hD (b - 1) (by omega) (by omega)).bnd fun d ⟨q, e, q0, q1⟩ => ?_
  subst e
  simp only [op_add, m_lift, m_bnd, intD, range_ok (n := 2 + q) (by omega) (by omega)]
  refine ((ho_comp (P := fun x => ∃ n : Int, x = .int n ∧ 2 ≤ n ∧ n ≤ (v : Int)) _ fun d hd => ?_).nox).bnd fun xs ⟨hl, hx⟩ => ?_
  · simp [turnC, bindT]
    refine (hD (v - 1) (by omega) (by omega)).bnd fun d ⟨n, e, n0, n1⟩ => ?_
    subst e
    simp only [op_add, m_lift, m_bnd]
    exact Ho.ret ⟨_, rfl, 2 + n, rfl, by omega, by omega⟩
  obtain ⟨ns, exs, hns⟩ := szD_of hx
  subst exs
  rw [List.length_map, List.length_map, List.length_range] at hl
  simp [biD, tupleD, bindT]
  refine (hD (r + 1) (by omega) (by omega)).bnd fun d ⟨t, e, t0, t1⟩ => ?_
  subst e
  simp only [m_lift, m_bnd, intD, range_ok (n := t) (by omega) (by omega)]
  have hne : ns ≠ [] := fun e => by rw [e] at hl; simp at hl; omega
  have hsz : PyData.tuple (ns.map .int) = szD ns := rfl
  simp only [hsz]
  refine ((ho_comp (P := fun x => ∃ c, x = cbD c ∧ CbOk ns c ∧ (c.length : Int) ≤ 3) _ fun d hd => ?_).nox).bnd fun xs ⟨hl2, hx2⟩ => ?_
  · simp [turnC, bindT]
    refine (hC ns 3 hne (fun n hn => ?_) (by omega) (by omega) (by omega)).bnd fun d h => ?_
    · have := hns n hn
      omega
    · exact Ho.ret ⟨_, rfl, h⟩
  obtain ⟨cs0, ecs, hcs⟩ := cbs_of hx2
  subst ecs
  rw [List.length_map, List.length_map, List.length_range] at hl2
  simp [seqD, biD]
  refine ((ho_filter (cs0.map cbD) fun d hd => ?_).nox).bnd fun xs hsub => ?_
  · obtain ⟨c, hc, rfl⟩ := List.mem_map.mp hd
    have ec : lenD (cbD c) = some (.int c.length) := by simp [cbD, lenD]
    simp [turnC, bindT, biD, ec]
    by_cases h1 : (1 : Int) < (c.length : Int)
    · simp [h1]
      exact Ho.ret (.inr rfl)
    · simp [h1]
      refine (hD 3 (by omega) (by omega)).bnd fun d ⟨u, e, u0, u1⟩ => ?_
      subst e
      simp only [op_eq_int, Option.bind_some, boolD_b, m_lift, m_bnd]
      cases hu : (u == 0) with
      | true => simp; exact Ho.ret (.inr rfl)
      | false => simp; exact Ho.ret (.inl rfl)
  have hmem : ∀ x ∈ xs, ∃ c, x = cbD c ∧ (CbOk ns c ∧ (c.length : Int) ≤ 3) := fun x hx => by
    obtain ⟨c, hc, rfl⟩ := List.mem_map.mp (hsub.subset hx)
    exact ⟨c, rfl, hcs c hc⟩
  obtain ⟨cs1, ecs1, hcs1⟩ := cbs_of hmem
  subst ecs1
  have hlen := hsub.length_le
  rw [List.length_map, List.length_map] at hlen
  obtain ⟨cs, e1, e2, e3, e4⟩ := sset_cb cs1 (fun c hc => (hcs1 c hc).1.ne) (by omega)
  simp [e1, tupleD, LIM]
  refine Ho.ret ⟨ns, cs, rfl, ⟨⟨by omega, by omega⟩, hns, by omega, fun c hc => (hcs1 c ((e3 c).mp hc)).1, e2⟩, fun c hc => ?_⟩
  have := (hcs1 c ((e3 c).mp hc)).2
  omega
end Ev

set_option Elab.async false
set_option linter.all false
set_option maxRecDepth 100000
set_option autoImplicit false
/-! EvM2: check_model, has_all, is_test_of, .. -/
namespace Ev
open PySem
abbrev ModelOk (cf : CF) (i : Nat) : Prop := ∀ d, Pl d → cf i [d] = ret (.bool (isModelD d))
theorem ev_check_model {cf : CF} {im x : Nat} (fu : Nat) (hM : ModelOk cf im) {d : D} (h : Pl d) : runF cf fu (f_check_model im x) [d] = if isModelD d = true then ret .none else thr x := by
  rw [run_code cf fu (f := f_check_model im x) rfl (s0 := [some (.i d)]) rfl]
  simp [f_check_model, hM d h, truD]
  cases isModelD d <;> rfl
abbrev CheckOk (cf : CF) (i x : Nat) : Prop := ∀ d, Pl d → cf i [d] = if isModelD d = true then ret .none else thr x
theorem pl_sz (ns : List Int) : Pl (szD ns) := by
  refine pl_iff.mpr ⟨canLay_all.mpr fun x hx => ?_, ?_⟩
  · obtain ⟨n, _, rfl⟩ := List.mem_map.mp hx
    rfl
  · show PyData.depthAll (ns.map .int) + 1 ≤ 64
    have : PyData.depthAll (ns.map PyData.int) ≤ 0 := depth_all.mpr fun x hx => by
      obtain ⟨n, _, rfl⟩ := List.mem_map.mp hx
      exact Nat.le_refl 0
    omega
theorem pl_md (ns : List Int) (cs : List (List (Int × Int))) : Pl (mdD ns cs) := by
  refine pl_iff.mpr ⟨canLay_all.mpr fun x hx => ?_, ?_⟩
  · simp only [List.mem_cons, List.not_mem_nil, or_false] at hx
    rcases hx with e | e
    · rw [e]; exact (pl_iff.mp (pl_sz ns)).1
    · rw [e]
      exact canLay_all.mpr fun y hy => by
        obtain ⟨c, _, rfl⟩ := List.mem_map.mp hy
        exact (pl_iff.mp (pl_cb c)).1
  · show PyData.depthAll [szD ns, .tuple (cs.map cbD)] + 1 ≤ 64
    have : PyData.depthAll [szD ns, .tuple (cs.map cbD)] ≤ 3 := depth_all.mpr fun x hx => by
      simp only [List.mem_cons, List.not_mem_nil, or_false] at hx
      rcases hx with e | e
      · rw [e]
        show PyData.depthAll (ns.map .int) + 1 ≤ 3
        have : PyData.depthAll (ns.map PyData.int) ≤ 0 := depth_all.mpr fun x hx => by
          obtain ⟨n, _, rfl⟩ := List.mem_map.mp hx
          exact Nat.le_refl 0
        omega
      · rw [e]
        show PyData.depthAll (cs.map cbD) + 1 ≤ 3
        have : PyData.depthAll (cs.map cbD) ≤ 2 := depth_all.mpr fun x hx => by
          obtain ⟨c, _, rfl⟩ := List.mem_map.mp hx
          exact depth_cb c
        omega
    omega
theorem ixD_md (ns : List Int) (cs : List (List (Int × Int))) : ixD (mdD ns cs) (.int 0) = some (szD ns) ∧ ixD (mdD ns cs) (.int 1) = some (.tuple (cs.map cbD)) := ⟨rfl, rfl⟩
theorem ev_is_combination {cf : CF} {ik ic x : Nat} (fu : Nat) (hK : CheckOk cf ik x) (hC : CombOk cf ic) {ns : List Int} {cs : List (List (Int × Int))} (hm : isModelD (mdD ns cs) = true) {d : D} (h : Pl d) : runF cf fu (f_is_combination ik ic) [mdD ns cs, d] = ret (.bool (isCombD ns d)) := by
  rw [run_code cf fu (f := f_is_combination ik ic) rfl (s0 := [some (.i (mdD ns cs)), some (.i d)]) rfl]
  simp [f_is_combination, hK _ (pl_md ns cs), hm, (ixD_md ns cs).1, hC ns d h]
/-! ### tests -/
def tsD (t : List Int) : D := szD t
def hasB (t : List Int) (c : List (Int × Int)) : Bool := c.all fun p => t.getD p.1.toNat 0 == p.2
theorem ixD_ts {t : List Int} {p : Int} (h0 : 0 ≤ p) (h1 : p < t.length) : ixD (tsD t) (.int p) = some (.int (t.getD p.toNat 0)) := ixD_sz h0 h1
abbrev HasOk (cf : CF) (i : Nat) : Prop := ∀ t c, (∀ p ∈ c, 0 ≤ p.1 ∧ p.1 < (t.length : Int)) → cf i [tsD t, cbD c] = ret (.bool (hasB t c))
theorem ev_has_all (cf : CF) (fu : Nat) (t : List Int) (c : List (Int × Int)) (h : ∀ p ∈ c, 0 ≤ p.1 ∧ p.1 < (t.length : Int)) : runF cf fu f_has_all [tsD t, cbD c] = ret (.bool (hasB t c)) := by
  rw [run_code cf fu (f := f_has_all) rfl (s0 := [some (.i (tsD t)), some (.i (cbD c)), none, none]) rfl]
  have c1 : evE cf (.comp (.op .eq (.ix (.pk 0) (.pk 2)) (.pk 3)) (.tup (.cons (.name 2) (.cons (.name 3) .nil))) (.seq (.var 1)) .yes [2, 3]) [some (.i (tsD t)), some (.i (cbD c)), none, none] = ret (.list (c.map fun p => .bool (t.getD p.1.toNat 0 == p.2))) := by
    refine ev_compM prI c (fun p => .bool (t.getD p.1.toNat 0 == p.2)) (by simp [cbD, seqD]) fun p hp => ?_
    obtain ⟨h0, h1⟩ := h p hp
    simp [turnC, wipeA, bindT, bindTs, prI, ixD_ts h0 h1, op_eq_int]
  simp [f_has_all, c1, biD, allD_map, hasB]
theorem ev_law_has (cf : CF) (fu : Nat) (t : List Int) (c : List (Int × Int)) (h : ∀ p ∈ c, 0 ≤ p.1 ∧ p.1 < (t.length : Int)) : runF cf fu f_law_has [tsD t, cbD c] = ret (.bool (hasB t c)) := by
  rw [run_code cf fu (f := f_law_has) rfl (s0 := [some (.i (tsD t)), some (.i (cbD c)), none, none]) rfl]
  have c1 : evE cf (.comp (.int 1) (.tup (.cons (.name 2) (.cons (.name 3) .nil))) (.seq (.var 1)) (.one (.cmp .ne (.ix (.pk 0) (.pk 2)) (.pk 3))) [2, 3]) [some (.i (tsD t)), some (.i (cbD c)), none, none] = ret (.list (c.filterMap fun p => if t.getD p.1.toNat 0 == p.2 then none else some (.int 1))) := by
    refine ev_comp prI c _ (by simp [cbD, seqD]) fun p hp => ?_
    obtain ⟨h0, h1⟩ := h p hp
    simp only [turnC, wipeA, bindT, bindTs, prI, List.map_cons, List.map_nil]
    simp [ixD_ts h0 h1, ne_int]
    by_cases e : t.getD p.1.toNat 0 = p.2
    · simp only [List.getD_eq_getElem?_getD] at e
      simp [e]
    · simp only [List.getD_eq_getElem?_getD] at e
      simp [e]
  have e2 : ∀ c : List (Int × Int), (c.filterMap fun p => if t.getD p.1.toNat 0 == p.2 then none else some (PyData.int 1)) = [] ↔ hasB t c = true := by
    intro c
    simp only [hasB, List.filterMap_eq_nil_iff, List.all_eq_true]
    refine forall_congr' fun p => forall_congr' fun _ => ?_
    cases (t.getD p.1.toNat 0 == p.2) <;> simp
  have e3 : ∀ l : List (Int × Int), ∀ x ∈ (l.filterMap fun p => if t.getD p.1.toNat 0 == p.2 then none else some (PyData.int 1)), x = .int 1 := by
    intro l x hx
    obtain ⟨p, _, e⟩ := List.mem_filterMap.mp hx
    split at e
    · cases e
    · cases e; rfl
  simp only [f_law_has, b_cons, s_ret, e_op, c1, e_lst, es_nil, m_bnd, m_assoc, List.length_nil, Nat.zero_le, if_true]
  generalize hL : (c.filterMap fun p => if t.getD p.1.toNat 0 == p.2 then none else some (PyData.int 1)) = L
  have hp : Pl (.list L) := by
    refine pl_iff.mpr ⟨canLay_all.mpr fun x hx => ?_, ?_⟩
    · rw [← hL] at hx; rw [e3 c x hx]; rfl
    · show PyData.depthAll L + 1 ≤ 64
      have : PyData.depthAll L ≤ 0 := depth_all.mpr fun x hx => by
        rw [← hL] at hx; rw [e3 c x hx]; exact Nat.le_refl 0
      omega
  have hn : Pl (.list []) := pl_iff.mpr ⟨rfl, by decide⟩
  rw [op_eq hp hn]
  have e4 : PyData.eqv (.list L) (.list []) = hasB t c := by
    have := e2 c
    rw [hL] at this
    cases L with
    | nil => rw [this.mp rfl]; simp [PyData.eqv, PyData.eqvAll]
    | cons x l =>
      cases q : hasB t c with
      | false => simp [PyData.eqv, PyData.eqvAll]
      | true => have := this.mpr q; cases this
  rw [e4]
  rfl
theorem len_tup (xs : List D) : lenD (.tuple xs) = some (.int xs.length) := rfl
/-- the places of a row -/
def inRng (xs : List D) (ns : List Int) : Bool := (xs.zip ns).all fun p => isIntD p.1 && decide (0 ≤ toI p.1) && decide (toI p.1 < p.2)
def isTestD (ns : List Int) (cs : List (List (Int × Int))) : D → Bool
  | .tuple xs => decide (xs.length = ns.length) && inRng xs ns && !(cs.any (hasB (xs.map toI)))
  | _ => false
theorem rng_shape : ∀ {xs : List D} {ns : List Int}, xs.length = ns.length → inRng xs ns = true → xs = (xs.map toI).map .int
  | [], _, _, _ => rfl
  | x :: xs, [], h, _ => by cases h
  | x :: xs, n :: ns, h, hr => by
    simp only [inRng, List.zip_cons_cons, List.all_cons, Bool.and_eq_true] at hr
    have e : x = .int (toI x) := by
      cases x with
      | int n => rfl
      | _ => cases hr.1.1.1
    rw [List.map_cons, List.map_cons, ← rng_shape (Nat.succ.inj h) (by unfold inRng; exact hr.2), ← e]
theorem zip_map_r {α β γ : Type} (f : β → γ) : ∀ (xs : List α) (ys : List β), xs.zip (ys.map f) = (xs.zip ys).map fun p => (p.1, f p.2)
  | [], _ => rfl
  | _ :: _, [] => rfl
  | x :: xs, y :: ys => by rw [List.map_cons, List.zip_cons_cons, List.zip_cons_cons, List.map_cons, zip_map_r f xs ys]
theorem ev_is_test_of {cf : CF} {ih ii : Nat} (fu : Nat) (hH : HasOk cf ih) (hI : IntOk cf ii) {ns : List Int} {cs : List (List (Int × Int))} (hc : ∀ c ∈ cs, ∀ p ∈ c, 0 ≤ p.1 ∧ p.1 < (ns.length : Int)) {d : D} (h : Pl d) : runF cf fu (f_is_test_of ih ii) [mdD ns cs, d] = ret (.bool (isTestD ns cs d)) := by
  rw [run_code cf fu (f := f_is_test_of ih ii) rfl (s0 := [some (.i (mdD ns cs)), some (.i d), none, none, none, none, none]) rfl]
  have eb : bindT (.tup (.cons (.name 2) (.cons (.name 3) .nil))) (mdD ns cs) [some (.i (mdD ns cs)), some (.i d), none, none, none, none, none] = some [some (.i (mdD ns cs)), some (.i d), some (.i (szD ns)), some (.i (.tuple (cs.map cbD))), none, none, none] := rfl
  simp only [f_is_test_of, b_cons, s_set, e_var, getI_z, m_lift, m_bnd, eb, at_nx, s_ife, t_or, t_not, t_val, e_isi, e_pk, getP_s, getP_zi, m_assoc]
  cases d with
  | dict kvs => exact (pl_dict h).elim
  | tuple xs =>
    have hx := pl_tuple h
    simp only [isiD, m_lift, m_bnd, truD, Bool.not_true, Bool.false_eq_true, if_false, t_cmp, e_bi, e_pk, getP_s, getP_zi, biD, len_sz, len_tup, ne_int, m_assoc]
    by_cases hl : xs.length = ns.length
    · have el : ((xs.length : Int) == (ns.length : Int)) = true := by simp [hl]
      have c1 : evE cf (.comp (.and (.call ii (.cons (.var 4) .nil)) (.chain .le .lt (.int 0) (.pk 4) (.pk 5))) (.tup (.cons (.name 4) (.cons (.name 5) .nil))) (.zip (.var 1) (.var 2)) .yes [4, 5]) [some (.i (mdD ns cs)), some (.i (.tuple xs)), some (.i (szD ns)), some (.i (.tuple (cs.map cbD))), none, none, none] = ret (.list ((xs.zip ns).map fun p => .bool (isIntD p.1 && decide (0 ≤ toI p.1) && decide (toI p.1 < p.2)))) := by
        refine ev_compM (fun p : D × Int => .tuple [p.1, .int p.2]) (xs.zip ns) _ ?_ fun p hp => ?_
        · have : (xs.zip (ns.map PyData.int)).map pairD = (xs.zip ns).map fun p => .tuple [p.1, .int p.2] := by
            rw [zip_map_r, List.map_map]
            rfl
          simp [szD, zipD, this]
        · have hpx := hx p.1 (List.of_mem_zip hp).1
          obtain ⟨x, n⟩ := p
          simp only at hpx ⊢
          simp only [turnC, wipeA, bindT, bindTs, List.map_cons, List.map_nil]
          cases x with
          | dict kvs => exact (pl_dict hpx).elim
          | int k =>
            simp [hI _ hpx, isIntD, toI]
            by_cases h0 : 0 ≤ k
            · simp [h0]; rfl
            · simp [h0]
          | _ => simp [hI _ hpx, isIntD, toI]
      simp only [el, Bool.not_true, Bool.false_eq_true, if_false, b_nil, at_nx, m_bnd, b_cons, s_ife, t_not, t_val, e_bi, c1, biD, allD_map, m_lift, truD, m_assoc]
      by_cases hr : inRng xs ns = true
      · have exs := rng_shape hl hr
        have hr' : ((xs.zip ns).all fun p => isIntD p.1 && decide (0 ≤ toI p.1) && decide (toI p.1 < p.2)) = true := hr
        have ets : PyData.tuple xs = tsD (xs.map toI) := by
          unfold tsD szD
          rw [← exs]
        have c2 : evE cf (.comp (.call ih (.cons (.var 1) (.cons (.var 6) .nil))) (.name 6) (.seq (.var 3)) .yes [6]) [some (.i (mdD ns cs)), some (.i (.tuple xs)), some (.i (szD ns)), some (.i (.tuple (cs.map cbD))), none, none, none] = ret (.list (cs.map fun c => .bool (hasB (xs.map toI) c))) := by
          refine ev_compM cbD cs _ (by simp [seqD]) fun c hcc => ?_
          have := hH (xs.map toI) c fun p hp => by rw [List.length_map, hl]; exact hc c hcc p hp
          rw [← ets] at this
          simp [turnC, wipeA, bindT, this]
        simp only [hr', Bool.not_true, Bool.false_eq_true, if_false, b_nil, at_nx, m_bnd, b_cons, s_ret, e_not, e_bi, c2, biD, anyD_map, m_lift, boolD_b, m_assoc]
        simp [isTestD, hl, hr]
      · have hr' : ((xs.zip ns).all fun p => isIntD p.1 && decide (0 ≤ toI p.1) && decide (toI p.1 < p.2)) = false := by
          have : inRng xs ns = false := by simpa using hr
          exact this
        simp [hr', isTestD, hr]
    · have el : ((xs.length : Int) == (ns.length : Int)) = false := by
        rw [beq_eq_false_iff_ne]
        omega
      simp [el, isTestD, hl]
  | _ => rfl
theorem ev_is_valid_test {cf : CF} {ik it x : Nat} (fu : Nat) (hK : CheckOk cf ik x) {ns : List Int} {cs : List (List (Int × Int))} {d : D} (hT : cf it [mdD ns cs, d] = ret (.bool (isTestD ns cs d))) (hm : isModelD (mdD ns cs) = true) : runF cf fu (f_is_valid_test ik it) [mdD ns cs, d] = ret (.bool (isTestD ns cs d)) := by
  rw [run_code cf fu (f := f_is_valid_test ik it) rfl (s0 := [some (.i (mdD ns cs)), some (.i d)]) rfl]
  simp [f_is_valid_test, hK _ (pl_md ns cs), hm, hT]
end Ev

set_option Elab.async false
set_option linter.all false
set_option maxRecDepth 100000
set_option autoImplicit false
/-! EvL3: all rows; _law_tests. -/
namespace Ev
open PySem
/-! ### rows -/
def stepA (rows : List (List Int)) (n : Int) : List (List Int) := (List.range n.toNat).flatMap fun (v : Nat) => rows.map fun r => r ++ [(v : Int)]
def stepB (rows : List (List Int)) (n : Int) : List (List Int) := rows.flatMap fun r => (List.range n.toNat).map fun (v : Nat) => r ++ [(v : Int)]
def rowsA (ns : List Int) : List (List Int) := ns.foldl stepA [[]]
def rowsB (ns : List Int) : List (List Int) := ns.foldl stepB [[]]
theorem rowsA_snoc (ns : List Int) (n : Int) : rowsA (ns ++ [n]) = stepA (rowsA ns) n := by unfold rowsA; rw [List.foldl_append]; rfl
theorem rowsB_snoc (ns : List Int) (n : Int) : rowsB (ns ++ [n]) = stepB (rowsB ns) n := by unfold rowsB; rw [List.foldl_append]; rfl
theorem snoc_ind {α : Type} {P : List α → Prop} (h0 : P []) (h1 : ∀ l x, P l → P (l ++ [x])) (l : List α) : P l := by
  have key : ∀ n (l : List α), l.length = n → P l := by
    intro n
    induction n with
    | zero => intro l hl; rw [List.length_eq_zero_iff.mp hl]; exact h0
    | succ n ih =>
      intro l hl
      have hne : l ≠ [] := fun e => by rw [e] at hl; cases hl
      rw [← List.dropLast_concat_getLast hne]
      exact h1 _ _ (ih _ (by rw [List.length_dropLast]; omega))
  exact key _ l rfl
theorem flatMap_split {α β : Type} (f g : α → List β) : ∀ l : List α, (l.flatMap fun x => f x ++ g x).Perm (l.flatMap f ++ l.flatMap g)
  | [] => .refl _
  | x :: l => by
    rw [List.flatMap_cons, List.flatMap_cons, List.flatMap_cons, List.append_assoc, List.append_assoc]
    refine List.Perm.append_left _ ?_
    refine (List.Perm.append_left _ (flatMap_split f g l)).trans ?_
    rw [← List.append_assoc, ← List.append_assoc]
    exact List.Perm.append_right _ List.perm_append_comm
theorem step_perm (n : Int) : ∀ rows : List (List Int), (stepA rows n).Perm (stepB rows n)
  | [] => by
    unfold stepA stepB
    rw [List.flatMap_nil]
    have : ∀ l : List Nat, (l.flatMap fun (v : Nat) => ([] : List (List Int)).map fun r => r ++ [(v : Int)]) = [] := by
      intro l
      induction l with
      | nil => rfl
      | cons x l ih => rw [List.flatMap_cons, ih]; rfl
    rw [this]
  | r :: rows => by
    have ih := step_perm n rows
    unfold stepA stepB at ih ⊢
    rw [List.flatMap_cons]
    have e : (fun v : Nat => (r :: rows).map fun r => r ++ [(v : Int)]) = fun (v : Nat) => [r ++ [(v : Int)]] ++ rows.map fun r => r ++ [(v : Int)] := rfl
    rw [e]
    refine (flatMap_split _ _ _).trans ?_
    have e2 : ((List.range n.toNat).flatMap fun (v : Nat) => [r ++ [(v : Int)]]) = (List.range n.toNat).map fun (v : Nat) => r ++ [(v : Int)] := by
      rw [List.map_eq_flatMap]
    rw [e2]
    exact List.Perm.append_left _ ih
theorem stepB_perm {rows rows' : List (List Int)} (h : rows.Perm rows') (n : Int) : (stepB rows n).Perm (stepB rows' n) := h.flatMap_right _
theorem rows_perm (ns : List Int) : (rowsA ns).Perm (rowsB ns) := by
  induction ns using snoc_ind with
  | h0 => exact .refl _
  | h1 ns n ih =>
    rw [rowsA_snoc, rowsB_snoc]
    exact (step_perm n _).trans (stepB_perm ih n)
/-- a row of the sizes -/
def RowOk (ns t : List Int) : Prop := t.length = ns.length ∧ ∀ i (h : i < ns.length), 0 ≤ t.getD i 0 ∧ t.getD i 0 < ns[i]
theorem mem_rowsB (ns : List Int) : ∀ t, t ∈ rowsB ns ↔ RowOk ns t := by
  induction ns using snoc_ind with
  | h0 =>
    intro t
    unfold rowsB RowOk
    simp
  | h1 ns n ih =>
    intro t
    rw [rowsB_snoc]
    unfold stepB
    simp only [List.mem_flatMap, List.mem_map, List.mem_range]
    constructor
    · rintro ⟨r, hr, v, hv, rfl⟩
      obtain ⟨h1, h2⟩ := (ih r).mp hr
      refine ⟨by simp [h1], fun i hi => ?_⟩
      rw [List.length_append, List.length_singleton] at hi
      by_cases hin : i < ns.length
      · have := h2 i hin
        rw [List.getElem_append_left hin]
        rw [List.getD_eq_getElem?_getD, List.getElem?_append_left (by omega), ← List.getD_eq_getElem?_getD]
        exact this
      · have hi' : i = ns.length := by omega
        subst hi'
        rw [List.getElem_append_right (Nat.le_refl _), List.getD_eq_getElem?_getD, List.getElem?_append_right (by omega)]
        simp [h1]
        omega
    · rintro ⟨h1, h2⟩
      rw [List.length_append, List.length_singleton] at h1
      have hne : t ≠ [] := fun e => by rw [e] at h1; cases h1
      have hl := h2 ns.length (by simp)
      have et := List.dropLast_concat_getLast hne
      have eg : t.getD ns.length 0 = t.getLast hne := by
        rw [List.getLast_eq_getElem, List.getD_eq_getElem?_getD, List.getElem?_eq_getElem (by omega)]
        simp [h1]
      rw [List.getElem_append_right (Nat.le_refl _)] at hl
      simp only [Nat.sub_self, List.getElem_cons_zero] at hl
      refine ⟨t.dropLast, (ih _).mpr ⟨by rw [List.length_dropLast]; omega, fun i hi => ?_⟩, (t.getLast hne).toNat, by rw [← eg]; omega, ?_⟩
      · have := h2 i (by rw [List.length_append]; omega)
        rw [List.getElem_append_left hi] at this
        rw [List.getD_eq_getElem?_getD, List.getElem?_dropLast, if_pos (by omega), ← List.getD_eq_getElem?_getD]
        exact this
      · have : (((t.getLast hne).toNat : Nat) : Int) = t.getLast hne := by rw [← eg]; omega
        rw [this]
        exact et
/-! ### their order -/
theorem lex_append : ∀ {a b : List Int} (x y : List Int), a.length = b.length → a < b → a ++ x < b ++ y
  | [], [], x, y, _, h => absurd h (by simp)
  | [], _ :: _, _, _, h, _ => by cases h
  | _ :: _, [], _, _, h, _ => by cases h
  | a :: as, b :: bs, x, y, hl, h => by
    rw [List.cons_append, List.cons_append]
    rw [List.cons_lt_cons_iff] at h ⊢
    rcases h with h | ⟨e, h⟩
    · exact .inl h
    · exact .inr ⟨e, lex_append x y (Nat.succ.inj hl) h⟩
theorem lex_same : ∀ (a : List Int) {x y : Int}, x < y → a ++ [x] < a ++ [y]
  | [], x, y, h => by
    show [x] < [y]
    rw [List.cons_lt_cons_iff]
    exact .inl h
  | a :: as, x, y, h => by
    rw [List.cons_append, List.cons_append, List.cons_lt_cons_iff]
    exact .inr ⟨rfl, lex_same as h⟩
theorem rowsB_len (ns : List Int) : ∀ t ∈ rowsB ns, t.length = ns.length := fun t ht => ((mem_rowsB ns t).mp ht).1
theorem rowsB_asc (ns : List Int) : (rowsB ns).Pairwise (· < ·) := by
  induction ns using snoc_ind with
  | h0 => exact List.pairwise_singleton _ _
  | h1 ns n ih =>
    rw [rowsB_snoc]
    unfold stepB
    rw [List.pairwise_flatMap]
    refine ⟨fun r _ => ?_, ?_⟩
    · rw [List.pairwise_map]
      exact List.pairwise_lt_range.imp fun {a b} h => lex_same r (Int.ofNat_lt.mpr h)
    · refine List.Pairwise.imp_of_mem (fun {a b} ha hb h => ?_) ih
      intro x hx y hy
      obtain ⟨v, _, rfl⟩ := List.mem_map.mp hx
      obtain ⟨u, _, rfl⟩ := List.mem_map.mp hy
      exact lex_append _ _ (by rw [rowsB_len ns a ha, rowsB_len ns b hb]) h
theorem dataLt_ts (a b : List Int) : PySem.W.dataLt (tsD a) (tsD b) = decide (a < b) := by
  show PySem.W.dataLt (.tuple (a.map .int)) (.tuple (b.map .int)) = _
  rw [PySem.W.dataLt_tuple]
  exact PySem.W.dataLt_ints a b
/-- the valid tests, in their order -/
def vts (ns : List Int) (cs : List (List (Int × Int))) : List (List Int) := (rowsB ns).filter fun t => !(cs.any (hasB t))
theorem mem_vts {ns : List Int} {cs : List (List (Int × Int))} {t : List Int} : t ∈ vts ns cs ↔ RowOk ns t ∧ cs.any (hasB t) = false := by
  unfold vts
  rw [List.mem_filter, mem_rowsB, Bool.not_eq_true']
theorem vts_asc (ns : List Int) (cs : List (List (Int × Int))) : (vts ns cs).Pairwise (· < ·) := (rowsB_asc ns).filter _
theorem lt_irrefl_l (a : List Int) : ¬ a < a := fun h => by
  induction a with
  | nil => simp at h
  | cons x a ih =>
    rw [List.cons_lt_cons_iff] at h
    rcases h with h | ⟨_, h⟩
    · omega
    · exact ih h
theorem lex_anti : ∀ {a b : List Int}, ¬ a < b → ¬ b < a → a = b
  | [], [], _, _ => rfl
  | [], _ :: _, h, _ => absurd (List.nil_lt_cons _ _) h
  | _ :: _, [], _, h => absurd (List.nil_lt_cons _ _) h
  | x :: a, y :: b, h1, h2 => by
    rw [List.cons_lt_cons_iff] at h1 h2
    have e : x = y := by
      rcases Int.lt_trichotomy x y with q | q | q
      · exact absurd (.inl q) h1
      · exact q
      · exact absurd (.inl q) h2
    subst e
    rw [lex_anti (fun q => h1 (.inr ⟨rfl, q⟩)) fun q => h2 (.inr ⟨rfl, q⟩)]
/-- sorted of some rows, in whatever order -/
theorem sort_rows {l m : List (List Int)} (hp : l.Perm m) (hm : m.Pairwise (· < ·)) : sortD (l.map tsD) = m.map tsD := by
  have as : ∀ a b : List Int, a < b → b < a → False := fun a b h1 h2 => lt_irrefl_l a (List.lt_trans h1 h2)
  refine List.Perm.eq_of_pairwise (le := fun a c => leS a c = true) (fun a c h1 h2 q1 q2 => ?_) (sortD_sorted _) ?_ ((sortD_perm _).trans (hp.map tsD))
  · obtain ⟨x, _, rfl⟩ := List.mem_map.mp ((sortD_perm _).mem_iff.mp h1)
    obtain ⟨y, _, rfl⟩ := List.mem_map.mp h2
    rw [leS_eq, dataLt_ts, Bool.not_eq_true', decide_eq_false_iff_not] at q1 q2
    rw [lex_anti q2 q1]
  · rw [List.pairwise_map]
    refine hm.imp fun {a b} h => ?_
    rw [leS_eq, dataLt_ts, Bool.not_eq_true', decide_eq_false_iff_not]
    exact fun h' => as a b h h'
end Ev

set_option Elab.async false
set_option linter.all false
set_option maxRecDepth 100000
set_option autoImplicit false
/-! EvL4: _law_tests. -/
namespace Ev
open PySem
@[simp] theorem intD_i (i : Int) : intD (.int i) = some i := rfl
/-- a loop of pure code -/
theorem forL_ex {f : D → Sl → M Fl} (J : Nat → Sl → Prop) : ∀ (ds : List D) (i : Nat) (s : Sl), J i s → (∀ (k : Nat) (d : D) (s : Sl), ds[k]? = some d → J (i + k) s → ∃ s', f d s = ret (.nx s') ∧ J (i + k + 1) s') → ∃ s', forL f ds s = ret (.nx s') ∧ J (i + ds.length) s'
  | [], i, s, h, _ => ⟨s, rfl, h⟩
  | d :: ds, i, s, h, step => by
    obtain ⟨s1, e1, h1⟩ := step 0 d s rfl h
    obtain ⟨s2, e2, h2⟩ := forL_ex J ds (i + 1) s1 h1 fun k d' s' hk hJ => by
      have := step (k + 1) d' s' hk (by rw [show i + (k + 1) = i + 1 + k by omega]; exact hJ)
      rw [show i + (k + 1) + 1 = i + 1 + k + 1 by omega] at this
      exact this
    refine ⟨s2, ?_, by rw [List.length_cons, show i + (ds.length + 1) = i + 1 + ds.length by omega]; exact h2⟩
    rw [forL, e1, m_bnd]
    exact e2
theorem pl_ts (t : List Int) : Pl (tsD t) := pl_sz t
theorem alike_ts (a b : List Int) : PySem.W.alike (tsD a) (tsD b) = true := by
  show PySem.W.alike (.tuple (a.map .int)) (.tuple (b.map .int)) = true
  rw [PySem.W.alike]
  exact PySem.W.alike_ints a b
theorem sort_ts {l : List (List Int)} (h : ∀ t ∈ l, t ≠ []) : sortedD (.list (l.map tsD)) = some (.list (sortD (l.map tsD))) := by
  show (if _ then _ else _) = _
  rw [if_pos]
  unfold sortOk
  simp only [Bool.and_eq_true, Bool.or_eq_true, List.all_eq_true]
  refine ⟨⟨fun x hx y hy => ?_, .inl fun x hx => ?_⟩, fun x hx => ?_⟩
  · obtain ⟨a, _, rfl⟩ := List.mem_map.mp hx
    obtain ⟨b, _, rfl⟩ := List.mem_map.mp hy
    exact alike_ts a b
  · obtain ⟨a, ha, rfl⟩ := List.mem_map.mp hx
    have := h a ha
    cases a with
    | nil => exact absurd rfl this
    | cons _ _ => rfl
  · obtain ⟨a, _, rfl⟩ := List.mem_map.mp hx
    exact pl_ts a
theorem add_ts (r : List Int) (v : Int) (h : r.length < 1000) : opD .add (tsD r) (.tuple [.int v]) = some (tsD (r ++ [v])) := by
  show (if (r.map PyData.int).length + 1 ≤ LIM then _ else _) = _
  rw [if_pos (by rw [List.length_map]; unfold LIM; omega)]
  unfold tsD szD
  rw [List.map_append]
  rfl
/-- the sizes are small enough that all rows can be made -/
def Small (ns : List Int) : Prop := ns.length < 100 ∧ (∀ n ∈ ns, 0 ≤ n ∧ n < 1000) ∧ ∀ k, (rowsA (ns.take k)).length ≤ 100000
theorem partA_len (R : List (List Int)) (k : Nat) : ((List.range k).flatMap fun (v : Nat) => R.map fun r => r ++ [(v : Int)]).length = k * R.length := by
  induction k with
  | zero => simp
  | succ k ih =>
    rw [List.range_succ, List.flatMap_append, List.length_append, ih]
    simp [Nat.succ_mul]
theorem rowsA_len (ns : List Int) : ∀ t ∈ rowsA ns, t.length = ns.length := fun t ht => rowsB_len ns t ((rows_perm ns).mem_iff.mp ht)
abbrev LTests (cf : CF) (i : Nat) : Prop := ∀ ns cs, ns ≠ [] → Small ns → (∀ c ∈ cs, ∀ p ∈ c, 0 ≤ p.1 ∧ p.1 < (ns.length : Int)) → cf i [mdD ns cs] = ret (.list ((vts ns cs).map tsD))
theorem eq_nil_list (L : List D) (h : ∀ x ∈ L, x = .int 1) : (opD .eq (.list L) (.list [])).bind boolD = some L.isEmpty := by
  have hp : Pl (.list L) := by
    refine pl_iff.mpr ⟨canLay_all.mpr fun x hx => by rw [h x hx]; rfl, ?_⟩
    show PyData.depthAll L + 1 ≤ 64
    have : PyData.depthAll L ≤ 0 := depth_all.mpr fun x hx => by rw [h x hx]; exact Nat.le_refl 0
    omega
  have hn : Pl (.list []) := pl_iff.mpr ⟨rfl, by decide⟩
  rw [op_eq hp hn, Option.bind_some, boolD_b]
  cases L <;> simp [PyData.eqv, PyData.eqvAll]
/-- [1 for x in l if p(x)] == [] -/
theorem ones_empty {α : Type} (p : α → Bool) (l : List α) : (l.filterMap fun x => if p x then some (PyData.int 1) else none).isEmpty = !(l.any p) := by
  induction l with
  | nil => rfl
  | cons x l ih =>
    rw [List.filterMap_cons, List.any_cons]
    cases h : p x with
    | true => simp
    | false => simp [ih]
theorem ones_one {α : Type} (p : α → Bool) (l : List α) : ∀ y ∈ (l.filterMap fun x => if p x then some (PyData.int 1) else none), y = .int 1 := fun y hy => by
  obtain ⟨x, _, e⟩ := List.mem_filterMap.mp hy
  split at e
  · cases e; rfl
  · cases e
theorem ev_law_tests {cf : CF} {ih : Nat} (fu : Nat) (hH : HasOk cf ih) {ns : List Int} {cs : List (List (Int × Int))} (hne : ns ≠ []) (hs : Small ns) (hc : ∀ c ∈ cs, ∀ p ∈ c, 0 ≤ p.1 ∧ p.1 < (ns.length : Int)) : runF cf fu (f_law_tests ih) [mdD ns cs] = ret (.list ((vts ns cs).map tsD)) := by
  rw [run_code cf fu (f := f_law_tests ih) rfl (s0 := [some (.i (mdD ns cs)), none, none, none, none, none, none]) rfl]
  simp [f_law_tests, bindT, (ixD_md ns cs).1, LIM]
  have esz : seqD (szD ns) = some (ns.map .int) := rfl
  rw [esz, m_lift, m_bnd]
  obtain ⟨s', e1, x2, x3, x4, es⟩ := forL_ex (f := turnF cf fu (.name 2) (.cons (.setM 3 (.lst .nil)) (.cons (.for_ (.name 4) (.range1 (.pk 2)) (.cons (.ext 3 (.comp (.op .add (.pk 5) (.tup (.cons (.var 4) .nil))) (.name 5) (.seq (.var 1)) .yes [5])) .nil)) (.frz 3 (.cons (.set (.name 1) (.var 3)) .nil)))))
    (fun k s => ∃ x2 x3 x4, s = [some (.i (mdD ns cs)), some (.i (.list ((rowsA (ns.take k)).map tsD))), x2, x3, x4, none, none]) (ns.map .int) 0 [some (.i (mdD ns cs)), some (.i (.list [.tuple []])), none, none, none, none, none] ⟨none, none, none, rfl⟩ (by
    rintro k d s hk ⟨x2, x3, x4, rfl⟩
    rw [Nat.zero_add]
    rw [List.getElem?_map] at hk
    obtain ⟨n, hn, ed⟩ := Option.map_eq_some_iff.mp hk
    subst ed
    have hkl : k < ns.length := (List.getElem?_eq_some_iff.mp hn).1
    obtain ⟨n0, n1⟩ := hs.2.1 n (List.mem_of_getElem? hn)
    have etk : ns.take (k + 1) = ns.take k ++ [n] := by rw [List.take_add_one, hn]; rfl
    have hR := hs.2.2 (k + 1)
    rw [etk, rowsA_snoc] at hR
    unfold stepA at hR
    rw [partA_len] at hR
    generalize hRd : rowsA (ns.take k) = R at hR
    have hrl : ∀ r ∈ R, r.length < 1000 := fun r hr => by
      rw [← hRd] at hr
      have h1 := rowsA_len _ r hr
      have h2 := List.length_take_le k ns
      have h3 := hs.1
      omega
    simp [turnF, bindT, LIM, mutS, range_ok n0 (by omega : n < 16777216)]
    obtain ⟨s2, e2, y4, es2⟩ := forL_ex (f := turnF cf fu (.name 4) (.cons (.ext 3 (.comp (.op .add (.pk 5) (.tup (.cons (.var 4) .nil))) (.name 5) (.seq (.var 1)) .yes [5])) .nil))
      (fun j s => ∃ y4, s = [some (.i (mdD ns cs)), some (.i (.list (R.map tsD))), some (.i (.int n)), some (.l (((List.range j).flatMap fun (v : Nat) => R.map fun r => r ++ [(v : Int)]).map tsD)), y4, none, none]) ((List.range n.toNat).map fun (k : Nat) => .int k) 0 [some (.i (mdD ns cs)), some (.i (.list (R.map tsD))), some (.i (.int n)), some (.l []), x4, none, none] ⟨x4, rfl⟩ (by
      rintro j d s hj ⟨y4, rfl⟩
      rw [Nat.zero_add]
      rw [List.getElem?_map] at hj
      obtain ⟨v, hv, ed⟩ := Option.map_eq_some_iff.mp hj
      subst ed
      have hvl : v = j ∧ j < n.toNat := by
        obtain ⟨h1, h2⟩ := List.getElem?_eq_some_iff.mp hv
        rw [List.length_range] at h1
        rw [List.getElem_range] at h2
        exact ⟨h2.symm, h1⟩
      obtain ⟨rfl, hjn⟩ := hvl
      have c1 : evE cf (.comp (.op .add (.pk 5) (.tup (.cons (.var 4) .nil))) (.name 5) (.seq (.var 1)) .yes [5]) [some (.i (mdD ns cs)), some (.i (.list (R.map tsD))), some (.i (.int n)), some (.l (((List.range v).flatMap fun (v : Nat) => R.map fun r => r ++ [(v : Int)]).map tsD)), some (.i (.int v)), none, none] = ret (.list (R.map fun r => tsD (r ++ [(v : Int)]))) := by
        refine ev_compM tsD R _ (by simp [seqD]) fun r hr => ?_
        simp [turnC, wipeA, bindT, LIM, add_ts r v (hrl r hr)]
      simp [turnF, bindT, c1, lstD]
      have hle : v * R.length + R.length ≤ 100000 := by
        have : (v + 1) * R.length ≤ n.toNat * R.length := Nat.mul_le_mul_right _ hjn
        rw [Nat.succ_mul] at this
        omega
      rw [if_pos (by
        have := partA_len R v
        rw [List.length_flatMap] at this
        simp only [List.length_map] at this
        unfold LIM
        first | omega | (rw [this]; omega)), m_bnd, at_nx, b_nil]
      refine ⟨_, rfl, some (.i (.int v)), ?_⟩
      rw [List.range_succ, List.flatMap_append, List.map_append]
      simp [Function.comp_def])
    rw [Nat.zero_add, List.length_map, List.length_range] at es2
    rw [e2, m_bnd]
    subst es2
    simp [frzS, bindT]
    have er : rowsA (ns.take (k + 1)) = (List.range n.toNat).flatMap fun (v : Nat) => R.map fun r => r ++ [(v : Int)] := by
      rw [etk, rowsA_snoc, hRd]
      rfl
    rw [er]
    exact ⟨_, rfl, _, _, _, rfl⟩)
  rw [Nat.zero_add, List.length_map, List.take_length] at es
  rw [e1, m_bnd]
  subst es
  have c2 : evE cf (.comp (.var 5) (.name 5) (.seq (.var 1)) (.one (.cmp .eq (.comp (.int 1) (.name 6) (.seq (.ix (.pk 0) (.int 1))) (.one (.val (.call ih (.cons (.var 5) (.cons (.var 6) .nil))))) [6]) (.lst .nil))) [5]) [some (.i (mdD ns cs)), some (.i (.list ((rowsA ns).map tsD))), x2, x3, x4, none, none] = ret (.list (((rowsA ns).filter fun t => !(cs.any (hasB t))).map tsD)) := by
    rw [ev_comp tsD (rowsA ns) (fun t => if !(cs.any (hasB t)) then some (tsD t) else none) (by simp [seqD]) fun t ht => ?_]
    · congr 2
      rw [← List.filterMap_eq_map, List.filterMap_filter]
      rfl
    · have c3 : evE cf (.comp (.int 1) (.name 6) (.seq (.ix (.pk 0) (.int 1))) (.one (.val (.call ih (.cons (.var 5) (.cons (.var 6) .nil))))) [6]) [some (.i (mdD ns cs)), some (.i (.list ((rowsA ns).map tsD))), x2, x3, x4, some (.i (tsD t)), none] = ret (.list (cs.filterMap fun c => if hasB t c then some (PyData.int 1) else none)) := by
        refine ev_comp cbD cs _ (by simp [(ixD_md ns cs).2, seqD]) fun c hcc => ?_
        have := hH t c fun p hp => by rw [rowsA_len ns t ht]; exact hc c hcc p hp
        simp [turnC, wipeA, bindT, this, truD]
        cases hasB t c <;> rfl
      simp [turnC, wipeA, bindT, c3, LIM, eq_nil_list _ (ones_one (hasB t) cs), ones_empty]
      split <;> rfl
  have hperm : ((rowsA ns).filter fun t => !(cs.any (hasB t))).Perm (vts ns cs) := (rows_perm ns).filter _
  simp [c2, biD]
  rw [sort_ts fun t ht e => ?_, sort_rows hperm (vts_asc ns cs)]
  · simp
  · have h1 := rowsA_len ns t (List.mem_filter.mp ht).1
    rw [e] at h1
    exact hne (List.length_eq_zero_iff.mp h1.symm)
end Ev

set_option Elab.async false
set_option linter.all false
set_option maxRecDepth 100000
set_option autoImplicit false
/-! EvSp: _law_spoilt. -/
namespace Ev
open PySem
def odds : List D := [.none, .tuple [.str "x"], .int (-1), .int 9, .list []]
mutual
def spoil : D → List D
  | .tuple xs => spoilAt [] xs ++ [.list xs, .tuple (xs ++ [.none])]
  | _ => []
def spoilAt : List D → List D → List D
  | _, [] => []
  | pre, x :: r => (odds ++ spoil x).map (fun o => .tuple (pre ++ o :: r)) ++ spoilAt (pre ++ [x]) r
end
mutual
def nds : D → Nat
  | .tuple xs => ndsA xs + 1
  | .list xs => ndsA xs + 1
  | _ => 1
def ndsA : List D → Nat
  | [] => 0
  | x :: xs => nds x + ndsA xs
end
mutual
theorem spoil_len : ∀ d : D, (spoil d).length + 5 ≤ 12 * nds d
  | .tuple xs => by
    have := spoilAt_len [] xs
    simp only [spoil, nds, List.length_append, List.length_cons, List.length_nil]
    omega
  | .list xs => by simp only [spoil, nds, List.length_nil]; omega
  | .none => by simp [spoil, nds]
  | .bool _ => by simp [spoil, nds]
  | .int _ => by simp [spoil, nds]
  | .str _ => by simp [spoil, nds]
  | .dict _ => by simp [spoil, nds]
theorem spoilAt_len : ∀ (pre xs : List D), (spoilAt pre xs).length ≤ 12 * ndsA xs
  | _, [] => by simp [spoilAt]
  | pre, x :: r => by
    have h1 := spoil_len x
    have h2 := spoilAt_len (pre ++ [x]) r
    have h3 : odds.length = 5 := rfl
    simp only [spoilAt, ndsA, List.length_append, List.length_map]
    omega
end
theorem len_nds : ∀ xs : List D, xs.length ≤ ndsA xs
  | [] => Nat.zero_le _
  | x :: xs => by
    have := len_nds xs
    have h1 : 1 ≤ nds x := by cases x <;> simp [nds]
    rw [List.length_cons, ndsA]
    omega
theorem nds_mem {x : D} : ∀ {xs : List D}, x ∈ xs → nds x ≤ ndsA xs
  | y :: ys, h => by
    rw [ndsA]
    rcases List.mem_cons.mp h with e | h
    · rw [e]; omega
    · have := nds_mem h; omega
/-- what a place spoilt looks like -/
theorem mem_spoilAt {o : D} : ∀ {xs pre : List D}, o ∈ spoilAt pre xs → ∃ l x r y, xs = l ++ x :: r ∧ y ∈ odds ++ spoil x ∧ o = .tuple (pre ++ l ++ y :: r)
  | [], pre, h => by simp [spoilAt] at h
  | x :: xs, pre, h => by
    rw [spoilAt] at h
    rcases List.mem_append.mp h with h | h
    · obtain ⟨y, hy, e⟩ := List.mem_map.mp h
      exact ⟨[], x, xs, y, rfl, hy, by rw [← e, List.append_nil]⟩
    · obtain ⟨l, x', r, y, e1, hy, e2⟩ := mem_spoilAt h
      exact ⟨x :: l, x', r, y, by rw [e1]; rfl, hy, by rw [e2]; simp⟩
theorem mem_spoil {o : D} {xs : List D} (h : o ∈ spoil (.tuple xs)) : (∃ l x r y, xs = l ++ x :: r ∧ y ∈ odds ++ spoil x ∧ o = .tuple (l ++ y :: r)) ∨ o = .list xs ∨ o = .tuple (xs ++ [.none]) := by
  rw [spoil] at h
  rcases List.mem_append.mp h with h | h
  · obtain ⟨l, x, r, y, e1, hy, e2⟩ := mem_spoilAt h
    exact .inl ⟨l, x, r, y, e1, hy, by rw [e2, List.nil_append]⟩
  · simp only [List.mem_cons, List.not_mem_nil, or_false] at h
    exact .inr h
theorem spoil_int (i : Int) : spoil (.int i) = [] := by simp [spoil]
/-! ### plain data stay plain -/
theorem depth_mem {x : D} {xs : List D} (h : x ∈ xs) : x.depth ≤ PyData.depthAll xs := depth_all.mp (Nat.le_refl _) x h
theorem pl_tup_of {xs : List D} {n : Nat} (hn : n < 64) (h : ∀ x ∈ xs, x.canLay0 = true ∧ x.depth ≤ n) : (PyData.tuple xs).canLay0 = true ∧ (PyData.tuple xs).depth ≤ n + 1 := by
  refine ⟨canLay_all.mpr fun x hx => (h x hx).1, ?_⟩
  show PyData.depthAll xs + 1 ≤ n + 1
  have := depth_all.mpr fun x hx => (h x hx).2
  omega
/-- with one more level of room -/
theorem spoil_pl : ∀ (n : Nat) (d : D), n < 60 → d.canLay0 = true → d.depth ≤ n → ∀ o ∈ spoil d, o.canLay0 = true ∧ o.depth ≤ n + 1 := by
  intro n
  induction n with
  | zero =>
    intro d _ hl hd o ho
    cases d with
    | tuple xs =>
      have : PyData.depthAll xs + 1 ≤ 0 := hd
      omega
    | _ => simp [spoil] at ho
  | succ n ih =>
    intro d hn hl hd o ho
    cases d with
    | tuple xs =>
      have hd' : PyData.depthAll xs + 1 ≤ n + 1 := hd
      have hx : ∀ x ∈ xs, x.canLay0 = true ∧ x.depth ≤ n := fun x hx => ⟨canLay_all.mp hl x hx, depth_all.mp (by omega) x hx⟩
      rcases mem_spoil ho with ⟨l, x, r, y, e1, hy, e2⟩ | e | e
      · subst e2
        refine pl_tup_of (by omega) fun z hz => ?_
        rcases List.mem_append.mp hz with hz | hz
        · have := hx z (by rw [e1]; exact List.mem_append_left _ hz)
          exact ⟨this.1, by omega⟩
        · rcases List.mem_cons.mp hz with e | hz
          · subst e
            rcases List.mem_append.mp hy with hy | hy
            · simp only [odds, List.mem_cons, List.not_mem_nil, or_false] at hy
              rcases hy with e | e | e | e | e <;> subst e <;> exact ⟨by decide +kernel, by simp [PyData.depth, PyData.depthAll]⟩
            · have := hx x (by rw [e1]; simp)
              exact ih x (by omega) this.1 this.2 z hy
          · have := hx z (by rw [e1]; exact List.mem_append_right _ (List.mem_cons_of_mem _ hz))
            exact ⟨this.1, by omega⟩
      · subst e
        refine ⟨hl, ?_⟩
        show PyData.depthAll xs + 1 ≤ n + 1 + 1
        omega
      · subst e
        refine pl_tup_of (by omega) fun z hz => ?_
        rcases List.mem_append.mp hz with hz | hz
        · have := hx z hz
          exact ⟨this.1, by omega⟩
        · rw [List.mem_singleton] at hz
          subst hz
          exact ⟨rfl, Nat.zero_le _⟩
    | _ => simp [spoil] at ho
theorem spoil_plain {d : D} (h : Pl d) (hd : d.depth < 50) : ∀ o ∈ spoil d, Pl o := fun o ho => by
  obtain ⟨h1, h2⟩ := pl_iff.mp h
  obtain ⟨k1, k2⟩ := spoil_pl 50 d (by omega) h1 (by omega) o ho
  exact pl_iff.mpr ⟨k1, by omega⟩
/-! ### its code -/
theorem cut_take (xs : List D) (k : Nat) (h : k ≤ xs.length) : cutD xs none (some (k : Int)) = xs.take k := by
  unfold cutD slI
  have h1 : ¬ ((k : Int) < 0) := by omega
  simp only [h1, if_false, Int.toNat_natCast, List.drop_zero, Nat.sub_zero, Nat.min_eq_left h]
theorem cut_drop (xs : List D) (k : Nat) : cutD xs (some ((k : Int) + 1)) none = xs.drop (k + 1) := by
  unfold cutD slI
  have h1 : ¬ ((k : Int) + 1 < 0) := by omega
  have h2 : ((k : Int) + 1).toNat = k + 1 := by omega
  simp only [h1, if_false, h2]
  by_cases h : k + 1 ≤ xs.length
  · rw [Nat.min_eq_left h]
    exact List.take_of_length_le (by rw [List.length_drop]; exact Nat.le_refl _)
  · rw [Nat.min_eq_right (by omega)]
    rw [List.drop_eq_nil_of_le (Nat.le_refl _), List.drop_eq_nil_of_le (by omega)]
    simp
theorem enumL_at : ∀ (xs : List D) (n k : Nat), (enumL n xs)[k]? = (xs[k]?).map fun x => .tuple [.int ((n + k : Nat) : Int), x]
  | [], n, k => by simp [enumL]
  | x :: xs, n, 0 => by simp [enumL]
  | x :: xs, n, k + 1 => by
    rw [enumL, List.getElem?_cons_succ, List.getElem?_cons_succ, enumL_at xs (n + 1) k]
    rw [show n + 1 + k = n + (k + 1) by omega]
theorem enumL_lenN : ∀ (xs : List D) (n : Nat), (enumL n xs).length = xs.length
  | [], _ => rfl
  | x :: xs, n => by rw [enumL, List.length_cons, List.length_cons, enumL_lenN xs]
theorem add_tup (a b : List D) (h : a.length + b.length < 10000) : opD .add (.tuple a) (.tuple b) = some (.tuple (a ++ b)) := by
  show (if a.length + b.length ≤ LIM then _ else _) = _
  rw [if_pos (by unfold LIM; omega)]
theorem add_lst (a b : List D) (h : a.length + b.length < 10000000) : opD .add (.list a) (.list b) = some (.list (a ++ b)) := by
  show (if a.length + b.length ≤ LIM then _ else _) = _
  rw [if_pos (by unfold LIM; omega)]
/-- the first k places -/
def spoilTo (xs : List D) : Nat → List D
  | 0 => []
  | k + 1 => spoilTo xs k ++ (match xs[k]? with
    | some x => (odds ++ spoil x).map fun o => .tuple (xs.take k ++ o :: xs.drop (k + 1))
    | none => [])
theorem spoilTo_eq (xs : List D) : ∀ (r pre : List D), pre ++ r = xs → spoilTo xs pre.length ++ spoilAt pre r = spoilTo xs xs.length
  | [], pre, h => by rw [spoilAt, List.append_nil, ← h, List.append_nil]
  | x :: r, pre, h => by
    have ih := spoilTo_eq xs r (pre ++ [x]) (by rw [← h]; simp)
    rw [← ih, List.length_append, List.length_singleton, spoilAt]
    have e1 : xs[pre.length]? = some x := by rw [← h, List.getElem?_append_right (Nat.le_refl _), Nat.sub_self]; rfl
    have e2 : xs.take pre.length = pre := by rw [← h]; simp
    have e3 : xs.drop (pre.length + 1) = r := by rw [← h]; simp
    rw [spoilTo, e1]
    simp only [e2, e3, List.append_assoc]
theorem spoilTo_all (xs : List D) : spoilTo xs xs.length = spoilAt [] xs := by
  have := spoilTo_eq xs xs [] rfl
  rw [← this]
  rfl
theorem spoilTo_len (xs : List D) : ∀ k, (spoilTo xs k).length ≤ 12 * ndsA (xs.take k)
  | 0 => Nat.zero_le _
  | k + 1 => by
    have ih := spoilTo_len xs k
    rw [spoilTo, List.length_append, List.take_add_one]
    have app : ∀ a b : List D, ndsA (a ++ b) = ndsA a + ndsA b := by
      intro a b
      induction a with
      | nil => simp [ndsA]
      | cons x a iha => rw [List.cons_append, ndsA, ndsA, iha]; omega
    rw [app]
    cases e : xs[k]? with
    | none => simp [ndsA]; omega
    | some x =>
      have := spoil_len x
      have h3 : odds.length = 5 := rfl
      simp only [Option.toList_some, ndsA, List.length_map, List.length_append]
      omega
theorem ndsA_take (xs : List D) (k : Nat) : ndsA (xs.take k) ≤ ndsA xs := by
  induction xs generalizing k with
  | nil => simp [ndsA]
  | cons x xs ih =>
    cases k with
    | zero => simp [ndsA]
    | succ k => rw [List.take_succ_cons, ndsA, ndsA]; have := ih k; omega

theorem ev_law_spoilt {cf : CF} {i : Nat} (fu : Nat) {xs : List D} (hx : ∀ x ∈ xs, cf i [x] = ret (.list (spoil x))) (hz : ndsA xs ≤ 5000) : runF cf fu (f_law_spoilt i) [.tuple xs] = ret (.list (spoil (.tuple xs))) := by
  have hlen := len_nds xs
  rw [run_code cf fu (f := f_law_spoilt i) rfl (s0 := [some (.i (.tuple xs)), none, none, none, none]) rfl]
  simp [f_law_spoilt, LIM, mutS, isiD, truD, enumD]
  obtain ⟨s', e1, x2, x3, x4, es⟩ := forL_ex (f := turnF cf fu (.tup (.cons (.name 2) (.cons (.name 3) .nil))) (.cons (.for_ (.name 4) (.seq (.op .add (.lst (.cons .none (.cons (.tup (.cons (.str "x") .nil)) (.cons (.neg (.int 1)) (.cons (.int 9) (.cons (.lst .nil) .nil)))))) (.call i (.cons (.var 3) .nil)))) (.cons (.app 1 (.op .add (.op .add (.sl (.pk 0) .no (.so (.pk 2))) (.tup (.cons (.var 4) .nil))) (.sl (.pk 0) (.so (.op .add (.pk 2) (.int 1))) .no))) .nil)) .nil))
    (fun k s => ∃ x2 x3 x4, s = [some (.i (.tuple xs)), some (.l (spoilTo xs k)), x2, x3, x4]) (enumL 0 xs) 0 [some (.i (.tuple xs)), some (.l []), none, none, none] ⟨none, none, none, rfl⟩ (by
    rintro k d s hk ⟨x2, x3, x4, rfl⟩
    rw [Nat.zero_add]
    rw [enumL_at] at hk
    obtain ⟨x, hxk, ed⟩ := Option.map_eq_some_iff.mp hk
    subst ed
    have hkl : k < xs.length := (List.getElem?_eq_some_iff.mp hxk).1
    have hxm := List.mem_of_getElem? hxk
    have hl1 := spoilTo_len xs k
    have hl2 := ndsA_take xs k
    have hl3 := spoil_len x
    have hl4 := nds_mem hxm
    obtain ⟨ys, hys⟩ : ∃ ys, ys = odds ++ spoil x := ⟨_, rfl⟩
    have hyl : ys.length ≤ 70000 := by
      rw [hys, List.length_append]
      have : odds.length = 5 := rfl
      omega
    have eo : opD .add (.list odds) (.list (spoil x)) = some (.list ys) := by
      rw [hys]
      exact add_lst _ _ (by have : odds.length = 5 := rfl; omega)
    have eodds : PyData.list [.none, .tuple [.str "x"], .int (-1), .int 9, .list []] = .list odds := rfl
    simp [turnF, bindT, bindTs, LIM, hx x hxm, eodds, eo, seqD]
    obtain ⟨s2, e2, y4, es2⟩ := forL_ex (f := turnF cf fu (.name 4) (.cons (.app 1 (.op .add (.op .add (.sl (.pk 0) .no (.so (.pk 2))) (.tup (.cons (.var 4) .nil))) (.sl (.pk 0) (.so (.op .add (.pk 2) (.int 1))) .no))) .nil))
      (fun j s => ∃ y4, s = [some (.i (.tuple xs)), some (.l (spoilTo xs k ++ (ys.take j).map fun o => .tuple (xs.take k ++ o :: xs.drop (k + 1)))), some (.i (.int k)), some (.i x), y4]) ys 0 [some (.i (.tuple xs)), some (.l (spoilTo xs k)), some (.i (.int k)), some (.i x), x4] ⟨x4, by simp⟩ (by
      rintro j o s hj ⟨y4, rfl⟩
      rw [Nat.zero_add]
      have a1 := add_tup (xs.take k) [o] (by rw [List.length_take, List.length_singleton]; omega)
      have a2 := add_tup (xs.take k ++ [o]) (xs.drop (k + 1)) (by rw [List.length_append, List.length_take, List.length_singleton, List.length_drop]; omega)
      simp [turnF, bindT, slD, cut_take xs k (by omega), cut_drop, LIM, a1, a2]
      have hb : (spoilTo xs k).length + min j ys.length < 16777216 := by
        have := Nat.min_le_right j ys.length
        omega
      rw [if_pos hb, m_bnd, at_nx, b_nil]
      refine ⟨_, rfl, some (.i o), ?_⟩
      rw [List.take_add_one, List.getElem?_map, hj]
      rfl)
    rw [Nat.zero_add, List.take_length] at es2
    rw [e2, m_bnd]
    subst es2
    have er : spoilTo xs (k + 1) = spoilTo xs k ++ ys.map fun o => .tuple (xs.take k ++ o :: xs.drop (k + 1)) := by
      rw [spoilTo, hxk, hys]
    rw [er]
    simp only [at_nx, b_nil]
    exact ⟨_, rfl, _, _, _, rfl⟩)
  rw [Nat.zero_add, enumL_lenN, spoilTo_all] at es
  rw [e1, m_bnd]
  subst es
  have a1 := add_tup xs [.none] (by rw [List.length_singleton]; omega)
  have hsl := spoilAt_len [] xs
  have a2 := add_lst (spoilAt [] xs) [.list xs, .tuple (xs ++ [.none])] (by simp; omega)
  simp [biD, listD, LIM, a1, a2, spoil]
theorem ev_law_spoilt0 {cf : CF} {i : Nat} (fu : Nat) {d : D} (h : Pl d) (ht : isTup d = false) : runF cf fu (f_law_spoilt i) [d] = ret (.list (spoil d)) := by
  cases d with
  | dict kvs => exact (pl_dict h).elim
  | tuple xs => cases ht
  | _ => simp only [spoil]; rfl
end Ev

set_option Elab.async false
set_option linter.all false
set_option maxRecDepth 100000
set_option autoImplicit false
/-! EvK1: what is spoilt is not valid. -/
namespace Ev
open PySem
theorem odds_cases {y : D} (h : y ∈ odds) : y = .none ∨ y = .tuple [.str "x"] ∨ y = .int (-1) ∨ y = .int 9 ∨ y = .list [] := by
  simpa [odds] using h
theorem all_mid {p : D → Bool} {l r : List D} {y : D} (h : p y = false) : (l ++ y :: r).all p = false := by
  rw [List.all_append, List.all_cons, h, Bool.false_and, Bool.and_false]
theorem all_end {p : D → Bool} {l : List D} {y : D} (h : p y = false) : (l ++ [y]).all p = false := all_mid (r := []) h
theorem split_int {ns : List Int} {l r : List D} {x : D} (h : ns.map PyData.int = l ++ x :: r) : ∃ i, x = .int i := by
  have : x ∈ ns.map PyData.int := by rw [h]; simp
  obtain ⟨i, _, e⟩ := List.mem_map.mp this
  exact ⟨i, e.symm⟩
/-! ### pairs -/
theorem odd_pair {ns : List Int} {y : D} (h : y ∈ odds) : isPairD ns y = false := by
  rcases odds_cases h with e | e | e | e | e <;> subst e <;> rfl
theorem spoil_pair {ns : List Int} (hl : ns.length ≤ 9) (hs : ∀ n ∈ ns, n ≤ 9) (p : Int × Int) {y : D} (h : y ∈ spoil (prI p)) : isPairD ns y = false := by
  have sz : ∀ k : Nat, ns.getD k 0 ≤ 9 := fun k => by
    by_cases hk : k < ns.length
    · rw [List.getD_eq_getElem?_getD, List.getElem?_eq_getElem hk]
      exact hs _ (List.getElem_mem hk)
    · rw [List.getD_eq_getElem?_getD, List.getElem?_eq_none (by omega)]
      decide
  rcases mem_spoil h with ⟨l, x, r, z, e1, hz, e2⟩ | e | e
  · subst e2
    match l, r, e1 with
    | [], _, e1 =>
      cases e1
      rw [spoil_int, List.append_nil] at hz
      rcases odds_cases hz with e | e | e | e | e <;> subst e
      · rfl
      · rfl
      · rfl
      · show (decide ((0 : Int) ≤ 9) && decide ((9 : Int) < ns.length) && decide (0 ≤ p.2) && decide (p.2 < ns.getD (9 : Int).toNat 0)) = false
        have : decide ((9 : Int) < ns.length) = false := decide_eq_false (by omega)
        rw [this]
        simp
      · rfl
    | [_], _, e1 =>
      cases e1
      rw [spoil_int, List.append_nil] at hz
      rcases odds_cases hz with e | e | e | e | e <;> subst e
      · rfl
      · rfl
      · show (decide (0 ≤ p.1) && decide (p.1 < ns.length) && decide ((0 : Int) ≤ -1) && decide (-1 < ns.getD p.1.toNat 0)) = false
        have : decide ((0 : Int) ≤ -1) = false := by decide
        rw [this]
        simp
      · show (decide (0 ≤ p.1) && decide (p.1 < ns.length) && decide ((0 : Int) ≤ 9) && decide (9 < ns.getD p.1.toNat 0)) = false
        have : decide (9 < ns.getD p.1.toNat 0) = false := decide_eq_false (by have := sz p.1.toNat; omega)
        rw [this]
        simp
      · rfl
    | _ :: _ :: _ :: _, _, e1 => simp at e1
    | [_, _], _, e1 => simp at e1
  · subst e; rfl
  · subst e; rfl
/-! ### combinations -/
theorem comb_all {ns : List Int} {xs : List D} (h : xs.all (isPairD ns) = false) : isCombD ns (.tuple xs) = false := by
  show (!xs.isEmpty && xs.all (isPairD ns) && ascB (xs.map fstD)) = false
  rw [h]
  simp
theorem odd_comb {ns : List Int} {y : D} (h : y ∈ odds) : isCombD ns y = false := by
  rcases odds_cases h with e | e | e | e | e <;> subst e <;> rfl
theorem spoil_comb {ns : List Int} (hl : ns.length ≤ 9) (hs : ∀ n ∈ ns, n ≤ 9) (c : List (Int × Int)) {y : D} (h : y ∈ spoil (cbD c)) : isCombD ns y = false := by
  rcases mem_spoil h with ⟨l, x, r, z, e1, hz, e2⟩ | e | e
  · subst e2
    refine comb_all (all_mid ?_)
    have hx : x ∈ c.map prI := by rw [e1]; simp
    obtain ⟨p, _, rfl⟩ := List.mem_map.mp hx
    rcases List.mem_append.mp hz with hz | hz
    · exact odd_pair hz
    · exact spoil_pair hl hs p hz
  · subst e; rfl
  · subst e
    exact comb_all (all_end rfl)
theorem twice_comb {ns : List Int} {c : List (Int × Int)} (hc : c ≠ []) : isCombD ns (.tuple (c.map prI ++ c.map prI)) = false := by
  have e : PyData.tuple (c.map prI ++ c.map prI) = cbD (c ++ c) := by unfold cbD; rw [List.map_append]
  rw [e]
  cases q : isCombD ns (cbD (c ++ c)) with
  | false => rfl
  | true =>
    exfalso
    have := (isComb_iff.mp q).asc
    rw [List.pairwise_append] at this
    cases c with
    | nil => exact hc rfl
    | cons p c =>
      have := this.2.2 p List.mem_cons_self p List.mem_cons_self
      omega
/-! ### models -/
theorem spoil_model {ns : List Int} {cs : List (List (Int × Int))} (hl : ns.length ≤ 9) (hs : ∀ n ∈ ns, n ≤ 9) {y : D} (h : y ∈ spoil (mdD ns cs)) : isModelD y = false := by
  have mod1 : ∀ {ss fs : List D}, ss.all sizeOk = false → isModelD (.tuple [.tuple ss, .tuple fs]) = false := fun {ss fs} hss => by
    show (decide (2 ≤ ss.length) && decide (ss.length ≤ 5) && ss.all sizeOk && decide (fs.length ≤ 8) && fs.all (isCombD (ss.map toI)) && ascB fs) = false
    rw [hss]
    simp
  have mod2 : ∀ {ss fs : List D}, fs.all (isCombD (ss.map toI)) = false → isModelD (.tuple [.tuple ss, .tuple fs]) = false := fun {ss fs} hss => by
    show (decide (2 ≤ ss.length) && decide (ss.length ≤ 5) && ss.all sizeOk && decide (fs.length ≤ 8) && fs.all (isCombD (ss.map toI)) && ascB fs) = false
    rw [hss]
    simp
  have odd_size : ∀ {y : D}, y ∈ odds → sizeOk y = false := fun {y} hy => by rcases odds_cases hy with e | e | e | e | e <;> subst e <;> rfl
  have e2 : szD ns = .tuple (ns.map .int) := rfl
  rcases mem_spoil h with ⟨l, x, r, z, e1, hz, e2⟩ | e | e
  · subst e2
    match l, r, e1 with
    | [], _, e1 =>
      cases e1
      show isModelD (.tuple [z, .tuple (cs.map cbD)]) = false
      rcases List.mem_append.mp hz with hz | hz
      · rcases odds_cases hz with e | e | e | e | e <;> subst e <;> rfl
      · rcases mem_spoil hz with ⟨l, x, r, u, e1, hu, e2⟩ | e | e
        · subst e2
          refine mod1 (all_mid ?_)
          obtain ⟨i, rfl⟩ := split_int e1
          rw [spoil_int, List.append_nil] at hu
          exact odd_size hu
        · subst e; rfl
        · subst e
          exact mod1 (all_end rfl)
    | [_], _, e1 =>
      cases e1
      show isModelD (.tuple [.tuple (ns.map .int), z]) = false
      rcases List.mem_append.mp hz with hz | hz
      · rcases odds_cases hz with e | e | e | e | e <;> subst e
        · rfl
        · exact mod2 (by rfl)
        · rfl
        · rfl
        · rfl
      · rcases mem_spoil hz with ⟨l, x, r, u, e1, hu, e2⟩ | e | e
        · subst e2
          refine mod2 (all_mid ?_)
          rw [toI_map]
          have hx : x ∈ cs.map cbD := by rw [e1]; simp
          obtain ⟨c, _, rfl⟩ := List.mem_map.mp hx
          rcases List.mem_append.mp hu with hu | hu
          · exact odd_comb hu
          · exact spoil_comb hl hs c hu
        · subst e; rfl
        · subst e
          exact mod2 (all_end rfl)
    | _ :: _ :: _ :: _, _, e1 => simp at e1
    | [_, _], _, e1 => simp at e1
  · subst e; rfl
  · subst e; rfl
/-! ### tests -/
theorem rng_mid {ns : List Int} (hs : ∀ n ∈ ns, n ≤ 9) : ∀ {l r : List D} {y : D} {ms : List Int}, (∀ n ∈ ms, n ≤ 9) → (l ++ y :: r).length = ms.length → y ∈ odds → inRng (l ++ y :: r) ms = false
  | [], r, y, [], _, h, _ => by simp at h
  | [], r, y, m :: ms, hm, h, hy => by
    have hm9 := hm m List.mem_cons_self
    show ((isIntD y && decide (0 ≤ toI y) && decide (toI y < m)) && (r.zip ms).all _) = false
    have : (isIntD y && decide (0 ≤ toI y) && decide (toI y < m)) = false := by
      rcases odds_cases hy with e | e | e | e | e <;> subst e
      · rfl
      · rfl
      · rfl
      · have : decide (toI (.int 9) < m) = false := decide_eq_false (by show ¬ ((9 : Int) < m); omega)
        rw [this]
        simp
      · rfl
    rw [this, Bool.false_and]
  | a :: l, r, y, [], _, h, _ => by simp at h
  | a :: l, r, y, m :: ms, hm, h, hy => by
    have ih := rng_mid hs (l := l) (r := r) (y := y) (ms := ms) (fun n hn => hm n (List.mem_cons_of_mem _ hn)) (Nat.succ.inj h) hy
    show ((isIntD a && decide (0 ≤ toI a) && decide (toI a < m)) && ((l ++ y :: r).zip ms).all _) = false
    rw [show ((l ++ y :: r).zip ms).all (fun p => isIntD p.1 && decide (0 ≤ toI p.1) && decide (toI p.1 < p.2)) = false from ih, Bool.and_false]
theorem test_rng {ns : List Int} {cs : List (List (Int × Int))} {xs : List D} (h : xs.length = ns.length → inRng xs ns = false) : isTestD ns cs (.tuple xs) = false := by
  show (decide (xs.length = ns.length) && inRng xs ns && !(cs.any (hasB (xs.map toI)))) = false
  by_cases hl : xs.length = ns.length
  · rw [h hl]; simp
  · simp [hl]
theorem spoil_test {ns : List Int} {cs : List (List (Int × Int))} {t : List Int} (hs : ∀ n ∈ ns, n ≤ 9) (ht : t.length = ns.length) {y : D} (h : y ∈ spoil (tsD t)) : isTestD ns cs y = false := by
  rcases mem_spoil h with ⟨l, x, r, z, e1, hz, e2⟩ | e | e
  · subst e2
    obtain ⟨i, rfl⟩ := split_int e1
    rw [spoil_int, List.append_nil] at hz
    exact test_rng fun hl => rng_mid hs hs hl hz
  · subst e; rfl
  · subst e
    exact test_rng fun hl => by simp [ht] at hl
theorem isTest_ts {ns : List Int} {cs : List (List (Int × Int))} {t : List Int} (h : RowOk ns t) : isTestD ns cs (tsD t) = !(cs.any (hasB t)) := by
  show (decide ((t.map PyData.int).length = ns.length) && inRng (t.map .int) ns && !(cs.any (hasB ((t.map PyData.int).map toI)))) = _
  have hr : ∀ {t ns : List Int}, t.length = ns.length → (∀ i (h : i < ns.length), 0 ≤ t.getD i 0 ∧ t.getD i 0 < ns[i]) → inRng (t.map .int) ns = true := by
    intro t
    induction t with
    | nil => intro ns _ _; rfl
    | cons a t ih =>
      intro ns hl h
      cases ns with
      | nil => cases hl
      | cons n ns =>
        have h0 := h 0 (by simp)
        have := ih (Nat.succ.inj hl) fun i hi => h (i + 1) (by simp; omega)
        show ((true && decide (0 ≤ a) && decide (a < n)) && ((t.map PyData.int).zip ns).all _) = true
        rw [show ((t.map PyData.int).zip ns).all (fun p => isIntD p.1 && decide (0 ≤ toI p.1) && decide (toI p.1 < p.2)) = true from this]
        have h0' : 0 ≤ a ∧ a < n := h0
        simp [h0'.1, h0'.2]
  rw [toI_map, hr h.1 h.2, List.length_map, h.1]
  simp
end Ev

set_option Elab.async false
set_option linter.all false
set_option maxRecDepth 100000
set_option autoImplicit false
/-! EvK1b: the law k01, from the contracts of its defs. -/
namespace Ev
open PySem
theorem nds_ints (ns : List Int) : ndsA (ns.map .int) = ns.length := by
  induction ns with
  | nil => rfl
  | cons n ns ih =>
    have : nds (.int n) = 1 := rfl
    rw [List.map_cons, ndsA, ih, this, List.length_cons]; omega
theorem nds_prs (c : List (Int × Int)) : ndsA (c.map prI) = 3 * c.length := by
  induction c with
  | nil => rfl
  | cons p c ih =>
    rw [List.map_cons, ndsA, ih, List.length_cons]
    show ndsA [.int p.1, .int p.2] + 1 + 3 * c.length = _
    simp [ndsA, nds]
    omega
theorem nds_cbs {cs : List (List (Int × Int))} {k : Nat} (h : ∀ c ∈ cs, c.length ≤ k) : ndsA (cs.map cbD) ≤ (3 * k + 1) * cs.length := by
  induction cs with
  | nil => simp [ndsA]
  | cons c cs ih =>
    have h1 := h c List.mem_cons_self
    have h2 := ih fun x hx => h x (List.mem_cons_of_mem _ hx)
    have h3 : nds (cbD c) = 3 * c.length + 1 := by show ndsA (c.map prI) + 1 = _; rw [nds_prs]
    rw [List.map_cons, ndsA, h3, List.length_cons, Nat.mul_succ]
    omega
theorem nds_md {ns : List Int} {cs : List (List (Int × Int))} {k : Nat} (h : ∀ c ∈ cs, c.length ≤ k) : nds (mdD ns cs) ≤ ns.length + (3 * k + 1) * cs.length + 3 := by
  have h1 := nds_cbs h
  have h2 : nds (mdD ns cs) = (ndsA (ns.map .int) + 1) + ((ndsA (cs.map cbD) + 1) + 0) + 1 := rfl
  rw [h2, nds_ints]
  omega
theorem rowsA_le {ns : List Int} (h : ∀ n ∈ ns, n ≤ 4) : (rowsA ns).length ≤ 4 ^ ns.length := by
  induction ns using snoc_ind with
  | h0 => exact Nat.le_refl _
  | h1 ns n ih =>
    have ih := ih fun m hm => h m (List.mem_append_left _ hm)
    have hn : n.toNat ≤ 4 := by have := h n (by simp); omega
    rw [rowsA_snoc]
    unfold stepA
    rw [partA_len, List.length_append, List.length_singleton, Nat.pow_succ]
    calc n.toNat * (rowsA ns).length ≤ 4 * 4 ^ ns.length := Nat.mul_le_mul hn ih
      _ = 4 ^ ns.length * 4 := Nat.mul_comm _ _
theorem small_of {ns : List Int} (hl : ns.length ≤ 5) (h : ∀ n ∈ ns, 0 ≤ n ∧ n ≤ 4) : Small ns := by
  refine ⟨by omega, fun n hn => by have := h n hn; omega, fun k => ?_⟩
  have h1 := rowsA_le (ns := ns.take k) fun n hn => (h n (List.mem_of_mem_take hn)).2
  have h2 : (ns.take k).length ≤ 5 := by rw [List.length_take]; omega
  have h3 : 4 ^ (ns.take k).length ≤ 4 ^ 5 := Nat.pow_le_pow_right (by decide) h2
  have h4 : (4 : Nat) ^ 5 = 1024 := by decide
  omega
theorem nk_ts (t : List Int) : nkOk (tsD t) = true := by
  show nkAll (t.map .int) = true
  induction t with
  | nil => rfl
  | cons n t ih => rw [List.map_cons, nkAll, ih]; rfl
theorem tsD_inj {a b : List Int} (h : tsD a = tsD b) : a = b := by
  simp only [tsD, szD, PyData.tuple.injEq] at h
  exact map_inj (fun x y e => by cases e; rfl) h
theorem pl_tss (ts : List (List Int)) : Pl (.list (ts.map tsD)) := by
  refine pl_iff.mpr ⟨canLay_all.mpr fun x hx => ?_, ?_⟩
  · obtain ⟨t, _, rfl⟩ := List.mem_map.mp hx
    exact (pl_iff.mp (pl_ts t)).1
  · show PyData.depthAll (ts.map tsD) + 1 ≤ 64
    have : PyData.depthAll (ts.map tsD) ≤ 1 := depth_all.mpr fun x hx => by
      obtain ⟨t, _, rfl⟩ := List.mem_map.mp hx
      show PyData.depthAll (t.map .int) + 1 ≤ 1
      have : PyData.depthAll (t.map PyData.int) ≤ 0 := depth_all.mpr fun x hx => by
        obtain ⟨n, _, rfl⟩ := List.mem_map.mp hx
        exact Nat.le_refl 0
      omega
    omega
theorem in_tests (t : List Int) (ts : List (List Int)) : opD .isin (tsD t) (.list (ts.map tsD)) = some (.bool (decide (t ∈ ts))) := by
  show (inD (tsD t) (.list (ts.map tsD))).map _ = _
  have e : inD (tsD t) (.list (ts.map tsD)) = some ((ts.map tsD).any fun z => PyData.eqv z (tsD t)) := by
    show (if ok2 (tsD t) && ok2 (.list (ts.map tsD)) then _ else _) = _
    rw [show ok2 (tsD t) = true from pl_ts t, show ok2 (.list (ts.map tsD)) = true from pl_tss ts]
    rfl
  rw [e]
  show some (PyData.bool _) = _
  congr 2
  rw [Bool.eq_iff_iff, decide_eq_true_eq, List.any_eq_true]
  constructor
  · rintro ⟨z, hz, e⟩
    obtain ⟨a, ha, rfl⟩ := List.mem_map.mp hz
    rw [tsD_inj (eqv_nk _ _ (nk_ts a) (nk_ts t) e)] at ha
    exact ha
  · intro h
    exact ⟨tsD t, List.mem_map.mpr ⟨t, h, rfl⟩, eqv_refl _ (nk_ts t)⟩
theorem none_left {cf : CF} {elt : E} {tg : Tg} {it : I} {ifs : Ts} {own : List Nat} {s : Sl} (l : List D) (hi : evI cf it s = ret l) (h : ∀ x ∈ l, turnC cf elt tg ifs (wipeA s own) x = ret none) : evE cf (.comp elt tg it ifs own) s = ret (.list []) := by
  rw [ev_comp (fun x => x) l (fun _ => none) (by rw [hi, List.map_id']) h]
  have : ∀ l : List D, (l.filterMap fun _ => (none : Option D)) = [] := fun l => by
    induction l with
    | nil => rfl
    | cons x l ih => rw [List.filterMap_cons]; exact ih
  rw [this]

theorem ev_law_is (cf : CF) (fu : Nat) (a b : Bool) : runF cf fu f_law_is [.bool a, .bool b] = ret (.bool (a == b)) := by
  rw [run_code cf fu (f := f_law_is) rfl (s0 := [some (.i (.bool a)), some (.i (.bool b))]) rfl]
  have h : ∀ c, Pl (.bool c) := fun c => pl_iff.mpr ⟨rfl, (show 0 ≤ 64 by decide)⟩
  have e : PyData.eqv (.bool a) (.bool b) = (a == b) := by simp [PyData.eqv]
  simp [f_law_is, isiD, op_eq (h a) (h b), e]
/-- the contracts -/
structure K1Ok (cf : CF) (ib ibd ic id_ iis im isp it ico imo iv : Nat) : Prop where
  beg : cf ib [] [] = .ok (obD 0) [.town 0 []]
  bnd : cf ibd [] = ret (.bool true)
  cmb : CombinOk cf ic
  drw : DrawOk cf id_
  is_ : ∀ a b : Bool, cf iis [.bool a, .bool b] = ret (.bool (a == b))
  mod : ModelDraw cf im
  spo : ∀ d, Pl d → nds d ≤ 5000 → d.depth ≤ 10 → cf isp [d] = ret (.list (spoil d))
  tst : LTests cf it
  com : ∀ ns cs d, isModelD (mdD ns cs) = true → Pl d → cf ico [mdD ns cs, d] = ret (.bool (isCombD ns d))
  imd : ModelOk cf imo
  val : ∀ ns cs d, isModelD (mdD ns cs) = true → (∀ c ∈ cs, CbOk ns c) → Pl d → cf iv [mdD ns cs, d] = ret (.bool (isTestD ns cs d))
theorem ne_nil_nil : (opD .ne (.list []) (.list [])).bind boolD = some false := by
  have hn : Pl (.list []) := pl_iff.mpr ⟨rfl, by decide⟩
  rw [op_ne hn hn]
  simp [PyData.eqv, PyData.eqvAll]
theorem depth_ts (t : List Int) : (tsD t).depth ≤ 1 := by
  show PyData.depthAll (t.map .int) + 1 ≤ 1
  have : PyData.depthAll (t.map PyData.int) ≤ 0 := depth_all.mpr fun x hx => by
    obtain ⟨n, _, rfl⟩ := List.mem_map.mp hx
    exact Nat.le_refl 0
  omega
theorem depth_md (ns : List Int) (cs : List (List (Int × Int))) : (mdD ns cs).depth ≤ 4 := by
  show PyData.depthAll [szD ns, .tuple (cs.map cbD)] + 1 ≤ 4
  have : PyData.depthAll [szD ns, .tuple (cs.map cbD)] ≤ 3 := depth_all.mpr fun x hx => by
    simp only [List.mem_cons, List.not_mem_nil, or_false] at hx
    rcases hx with e | e
    · rw [e]
      exact Nat.le_trans (depth_ts ns) (by decide)
    · rw [e]
      show PyData.depthAll (cs.map cbD) + 1 ≤ 3
      have : PyData.depthAll (cs.map cbD) ≤ 2 := depth_all.mpr fun x hx => by
        obtain ⟨c, _, rfl⟩ := List.mem_map.mp hx
        exact depth_cb c
      omega
  omega
theorem row_of {ns : List Int} : ∀ {xs : List D}, (xs.length = ns.length) → (∀ i (h : i < ns.length), ∃ r : Int, xs[i]? = some (.int r) ∧ 0 ≤ r ∧ r < ns[i]) → ∃ t, .tuple xs = tsD t ∧ RowOk ns t := fun {xs} hl h => by
  have key : ∀ (xs : List D), (∀ i (h : i < xs.length), ∃ r : Int, xs[i]? = some (.int r)) → ∃ t : List Int, xs = t.map .int := by
    intro xs
    induction xs with
    | nil => intro _; exact ⟨[], rfl⟩
    | cons x xs ih =>
      intro h
      obtain ⟨t, e⟩ := ih fun i hi => by
        obtain ⟨r, e⟩ := h (i + 1) (by simp; omega)
        exact ⟨r, by simpa using e⟩
      obtain ⟨r, e0⟩ := h 0 (by simp)
      have : x = .int r := by simpa using e0
      exact ⟨r :: t, by rw [this, e]; rfl⟩
  obtain ⟨t, e⟩ := key xs fun i hi => by
    obtain ⟨r, e, _⟩ := h i (by omega)
    exact ⟨r, e⟩
  subst e
  rw [List.length_map] at hl
  refine ⟨t, rfl, hl, fun i hi => ?_⟩
  obtain ⟨r, e, h0, h1⟩ := h i hi
  rw [List.getElem?_map] at e
  obtain ⟨r', e1, e2⟩ := Option.map_eq_some_iff.mp e
  cases e2
  rw [List.getD_eq_getElem?_getD, e1]
  exact ⟨h0, h1⟩
end Ev

set_option Elab.async false
set_option linter.all false
set_option maxRecDepth 100000
set_option autoImplicit false
/-! EvA1: all_tests, valid_tests, contains and the checks. -/
namespace Ev
open PySem
/-- the sizes are small enough for rows made in the other order -/
def SmallB (ns : List Int) : Prop := ns.length < 100 ∧ (∀ n ∈ ns, 0 ≤ n ∧ n < 1000) ∧ ∀ k, (rowsB (ns.take k)).length ≤ 100000
theorem Small.b {ns : List Int} (h : Small ns) : SmallB ns := ⟨h.1, h.2.1, fun k => by rw [← (rows_perm (ns.take k)).length_eq]; exact h.2.2 k⟩
def partB (n : Int) (R : List (List Int)) (k : Nat) : List (List Int) := (R.take k).flatMap fun r => (List.range n.toNat).map fun (v : Nat) => r ++ [(v : Int)]
theorem partB_len (n : Int) (R : List (List Int)) (k : Nat) : (partB n R k).length = (min k R.length) * n.toNat := by
  unfold partB
  rw [List.length_flatMap]
  simp [List.map_const']
theorem partB_all (n : Int) (R : List (List Int)) : partB n R R.length = stepB R n := by
  unfold partB stepB
  rw [List.take_length]
abbrev AllT (cf : CF) (i : Nat) : Prop := ∀ ns cs, SmallB ns → (∀ c ∈ cs, ∀ p ∈ c, 0 ≤ p.1 ∧ p.1 < (ns.length : Int)) → cf i [mdD ns cs] = ret (.list ((vts ns cs).map tsD))
theorem ev_all_tests {cf : CF} {ih : Nat} (fu : Nat) (hH : HasOk cf ih) {ns : List Int} {cs : List (List (Int × Int))} (hs : SmallB ns) (hc : ∀ c ∈ cs, ∀ p ∈ c, 0 ≤ p.1 ∧ p.1 < (ns.length : Int)) : runF cf fu (f_all_tests ih) [mdD ns cs] = ret (.list ((vts ns cs).map tsD)) := by
  rw [run_code cf fu (f := f_all_tests ih) rfl (s0 := [some (.i (mdD ns cs)), none, none, none, none, none, none]) rfl]
  have esz : seqD (szD ns) = some (ns.map .int) := rfl
  simp [f_all_tests, bindT, (ixD_md ns cs).1, LIM, esz]
  refine Pu.eq (Pu.bnd (Pu.forM PyData.int ns rfl (fun k s => ∃ x2 x3 x4, s = [some (.i (mdD ns cs)), some (.i (.list ((rowsB (ns.take k)).map tsD))), x2, x3, x4, none, none]) ⟨none, none, none, rfl⟩ ?_) ?_)
  · rintro k n s hn ⟨x2, x3, x4, rfl⟩
    obtain ⟨n0, n1⟩ := hs.2.1 n (List.mem_of_getElem? hn)
    have etk : ns.take (k + 1) = ns.take k ++ [n] := by rw [List.take_add_one, hn]; rfl
    have hR := hs.2.2 (k + 1)
    rw [etk, rowsB_snoc]  at hR
    have hrl : ∀ r ∈ rowsB (ns.take k), r.length < 1000 := fun r hr => by
      have h1 := rowsB_len _ r hr
      have h2 := List.length_take_le' k ns
      have h3 := hs.1
      omega
    generalize hRd : rowsB (ns.take k) = R at hR hrl
    have hRl : R.length * n.toNat ≤ 100000 := by
      have := partB_len n R R.length
      rw [partB_all, Nat.min_self] at this
      omega
    simp [turnF, bindT, LIM, mutS, seqD]
    refine Pu.bnd (Pu.forM tsD R rfl (fun j s => ∃ y4, s = [some (.i (mdD ns cs)), some (.i (.list (R.map tsD))), some (.i (.int n)), some (.l ((partB n R j).map tsD)), y4, none, none]) ⟨x4, rfl⟩ ?_) ?_
    · rintro j r s hr ⟨y4, rfl⟩
      have hjl : j < R.length := (List.getElem?_eq_some_iff.mp hr).1
      have hrm := hrl r (List.mem_of_getElem? hr)
      simp [turnF, bindT]
      refine Pu.compM (fun (k : Nat) => PyData.int k) (List.range n.toNat) (fun (v : Nat) => tsD (r ++ [(v : Int)])) (by simp [range_ok n0 (by omega : n < 16777216)]) (fun v _ => ?_) ?_
      · simp [turnC, wipeA, bindT, LIM, add_ts r v hrm]
      · have hl := partB_len n R j
        have hle : (min j R.length + 1) * n.toNat ≤ R.length * n.toNat := Nat.mul_le_mul_right _ (by omega)
        rw [Nat.succ_mul] at hle
        have tk : R.take (j + 1) = R.take j ++ [r] := by rw [List.take_add_one, hr]; rfl
        simp only [lstD, m_lift, m_bnd]
        rw [if_pos (by simp only [List.length_map, List.length_range, hl]; unfold LIM; omega), m_bnd, at_nx, b_nil]
        refine Pu.nx ⟨some (.i (tsD r)), ?_⟩
        unfold partB
        rw [tk, List.flatMap_append, List.map_append]
        simp [Function.comp_def]
    · rintro fl ⟨s', rfl, y4, rfl⟩
      simp [frzS, bindT]
      rw [etk, rowsB_snoc, hRd, partB_all]
      exact Pu.nx ⟨_, _, _, rfl⟩
  · rintro fl ⟨s', rfl, x2, x3, x4, rfl⟩
    simp [List.take_length]
    refine Pu.compK tsD tsD (rowsB ns) (fun t => !(cs.any (hasB t))) (by simp [seqD]) (fun t ht => ?_) (by simp [vts]; exact .ret rfl)
    simp [turnC, wipeA, bindT]
    refine bnd_compM cbD cs (fun c => .bool (hasB t c)) (by simp [(ixD_md ns cs).2, seqD]) (fun c hcc => ?_) ?_
    · have := hH t c fun p hp => by rw [rowsB_len ns t ht]; exact hc c hcc p hp
      simp [turnC, wipeA, bindT, this]
    · simp [biD, anyD_map, truD]
      split <;> rfl
abbrev ValidT (cf : CF) (i x : Nat) : Prop := ∀ d, Pl d → (isModelD d = false → cf i [d] = thr x) ∧ ∀ ns cs, d = mdD ns cs → isModelD d = true → SmallB ns → (∀ c ∈ cs, ∀ p ∈ c, 0 ≤ p.1 ∧ p.1 < (ns.length : Int)) → cf i [d] = ret (.tuple ((vts ns cs).map tsD))
theorem ev_valid_tests {cf : CF} {ia ik x : Nat} (fu : Nat) (hA : AllT cf ia) (hK : CheckOk cf ik x) : ∀ d, Pl d → (isModelD d = false → runF cf fu (f_valid_tests ia ik) [d] = thr x) ∧ ∀ ns cs, d = mdD ns cs → isModelD d = true → SmallB ns → (∀ c ∈ cs, ∀ p ∈ c, 0 ≤ p.1 ∧ p.1 < (ns.length : Int)) → runF cf fu (f_valid_tests ia ik) [d] = ret (.tuple ((vts ns cs).map tsD)) := by
  intro d h
  refine ⟨fun hm => ?_, fun ns cs e hm hs hc => ?_⟩
  · rw [run_code cf fu (f := f_valid_tests ia ik) rfl (s0 := [some (.i d)]) rfl]
    simp [f_valid_tests, hK d h, hm]
  · rw [run_code cf fu (f := f_valid_tests ia ik) rfl (s0 := [some (.i d)]) rfl]
    simp [f_valid_tests, hK d h, hm]
    subst e
    simp [hA ns cs hs hc, biD, tupleD]
theorem ev_check_test {cf : CF} {it x : Nat} (fu : Nat) {m d : D} {b : Bool} (hT : cf it [m, d] = ret (.bool b)) : runF cf fu (f_check_test it x) [m, d] = if b = true then ret .none else thr x := by
  rw [run_code cf fu (f := f_check_test it x) rfl (s0 := [some (.i m), some (.i d)]) rfl]
  simp [f_check_test, hT, truD]
  cases b <;> rfl
theorem ev_check_combination {cf : CF} {ic x : Nat} (fu : Nat) (hC : CombOk cf ic) {ns : List Int} {cs : List (List (Int × Int))} {d : D} (h : Pl d) : runF cf fu (f_check_combination ic x) [mdD ns cs, d] = if isCombD ns d = true then ret .none else thr x := by
  rw [run_code cf fu (f := f_check_combination ic x) rfl (s0 := [some (.i (mdD ns cs)), some (.i d)]) rfl]
  simp [f_check_combination, (ixD_md ns cs).1, hC ns d h, truD]
  cases isCombD ns d <;> rfl
/-- contains, in the order of its checks -/
structure ContOk (cf : CF) (i xm xt xc : Nat) : Prop where
  md : ∀ m t c, Pl m → isModelD m = false → cf i [m, t, c] = thr xm
  ts : ∀ ns cs t c, isModelD (mdD ns cs) = true → (∀ c ∈ cs, CbOk ns c) → Pl t → isTestD ns cs t = false → cf i [mdD ns cs, t, c] = thr xt
  cb : ∀ ns cs t c, isModelD (mdD ns cs) = true → (∀ c ∈ cs, CbOk ns c) → Pl t → Pl c → isTestD ns cs t = true → isCombD ns c = false → cf i [mdD ns cs, t, c] = thr xc
  ok : ∀ ns cs t c, isModelD (mdD ns cs) = true → (∀ c ∈ cs, CbOk ns c) → isTestD ns cs (tsD t) = true → CbOk ns c → t.length = ns.length → cf i [mdD ns cs, tsD t, cbD c] = ret (.bool (hasB t c))
theorem ev_contains {cf : CF} {ic ik it ih xm xt xc : Nat} (fu : Nat) (hK : CheckOk cf ik xm) (hT : ∀ ns cs d, (∀ c ∈ cs, CbOk ns c) → Pl d → cf it [mdD ns cs, d] = if isTestD ns cs d = true then ret .none else thr xt)
    (hC : ∀ ns cs d, Pl d → cf ic [mdD ns cs, d] = if isCombD ns d = true then ret .none else thr xc) (hH : HasOk cf ih) {cf' : CF} {i : Nat} (hcf : ∀ ds, cf' i ds = runF cf fu (f_contains ic ik it ih) ds) : ContOk cf' i xm xt xc := by
  have run : ∀ m t c, runF cf fu (f_contains ic ik it ih) [m, t, c] = bnd (evB cf fu (f_contains ic ik it ih).body [some (.i m), some (.i t), some (.i c)]) fin := fun m t c => run_code cf fu rfl rfl
  refine ⟨fun m t c hp hm => ?_, fun ns cs t c hm hc hp ht => ?_, fun ns cs t c hm hc hp hp2 ht hcb => ?_, fun ns cs t c hm hc ht hcb hl => ?_⟩
  · rw [hcf, run]
    simp [f_contains, hK m hp, hm]
  · rw [hcf, run]
    simp [f_contains, hK _ (pl_md ns cs), hm, hT ns cs t hc hp, ht]
  · rw [hcf, run]
    simp [f_contains, hK _ (pl_md ns cs), hm, hT ns cs t hc hp, ht, hC ns cs c hp2, hcb]
  · rw [hcf, run]
    have := hH t c fun p hp => by rw [hl]; exact ⟨(hcb.rng p hp).1, (hcb.rng p hp).2.1⟩
    simp [f_contains, hK _ (pl_md ns cs), hm, hT ns cs _ hc (pl_ts t), ht, hC ns cs _ (pl_cb c), isComb_iff.mpr hcb, this]
theorem ev_is_combination_no {cf : CF} {ik ic x : Nat} (fu : Nat) (hK : CheckOk cf ik x) {d c : D} (h : Pl d) (hm : isModelD d = false) : runF cf fu (f_is_combination ik ic) [d, c] = thr x := by
  rw [run_code cf fu (f := f_is_combination ik ic) rfl (s0 := [some (.i d), some (.i c)]) rfl]
  simp [f_is_combination, hK d h, hm]
theorem ev_is_valid_test_no {cf : CF} {ik it x : Nat} (fu : Nat) (hK : CheckOk cf ik x) {d c : D} (h : Pl d) (hm : isModelD d = false) : runF cf fu (f_is_valid_test ik it) [d, c] = thr x := by
  rw [run_code cf fu (f := f_is_valid_test ik it) rfl (s0 := [some (.i d), some (.i c)]) rfl]
  simp [f_is_valid_test, hK d h, hm]
end Ev

set_option Elab.async false
set_option linter.all false
set_option maxRecDepth 100000
set_option autoImplicit false
/-! EvB: for the laws' own code. -/
namespace Ev
open PySem
@[simp] theorem truD_b (b : Bool) : truD (.bool b) = some b := rfl
section
variable {α β : Type} {I : W → Prop}
theorem Ho.ofPu {x : M α} {P : α → Prop} (h : Pu x P) : Ho I x P := by
  obtain ⟨a, rfl, p⟩ := h
  exact Ho.ret p
theorem Ho.bndE {x : M α} {f : α → M β} {a : α} {Q : β → Prop} (h : x = Ev.ret a) (k : Ho I (f a) Q) : Ho I (Ev.bnd x f) Q := by
  subst h
  exact k
theorem Ho.bndP {x : M α} {f : α → M β} {P : α → Prop} {Q : β → Prop} (h : Pu x P) (k : ∀ a, P a → Ho I (f a) Q) : Ho I (Ev.bnd x f) Q := by
  obtain ⟨a, rfl, p⟩ := h
  exact k a p
theorem Ho.nx {s : Sl} {J : Sl → Prop} (h : J s) : Ho I (Ev.ret (Fl.nx s)) fun r => ∃ s', (r = .nx s' ∨ r = .ct s') ∧ J s' := Ho.ret ⟨s, .inl rfl, h⟩
theorem Ho.for {f : D → Sl → M Fl} {ds : List D} {s : Sl} (J : Nat → Sl → Prop) (h0 : J 0 s) (hs : ∀ (k : Nat) (d : D) (s : Sl), ds[k]? = some d → J k s → Ho I (f d s) fun r => ∃ s', (r = .nx s' ∨ r = .ct s') ∧ J (k + 1) s') : Ho I (forL f ds s) fun r => ∃ s', r = .nx s' ∧ J ds.length s' := by
  have := ho_for (I := I) (f := f) J ds 0 s h0 fun k d s hk hJ => by
    rw [Nat.zero_add] at hJ
    refine (hs k d s hk hJ).imp fun r ⟨s', e, j⟩ => ?_
    rw [Nat.zero_add]
    rcases e with e | e
    · exact .inl ⟨s', e, j⟩
    · exact .inr ⟨s', e, j⟩
  rw [Nat.zero_add] at this
  exact this
end
theorem ho_start {x : M D} {tl : W} (H : Ho Tn x fun d => d = .bool true) : ∃ w, x (.town 0 [] :: tl) = .ok (.bool true) w := by
  obtain ⟨a, w, e, _, ea⟩ := H _ ⟨0, [], tl, rfl, List.nodup_nil, fun p hp => nomatch hp⟩
  subst ea
  exact ⟨w, e⟩
/-- a law's beginning -/
theorem ho_begin {β : Type} {x : M D} {f : D → M D} {tl : W} (hx : x (.non :: tl) = .ok (obD 0) (.town 0 [] :: tl)) (H : Ho Tn (f (obD 0)) fun d => d = .bool true) : ∃ w, bnd x f (.non :: tl) = .ok (.bool true) w := by
  rw [bnd_ok hx]
  exact ho_start H
/-! ### data that are compared -/
theorem pl_str {x : Str} (h : (PyData.str x).canLay0 = true) : Pl (.str x) := pl_iff.mpr ⟨h, (show 0 ≤ 64 by decide)⟩
theorem pl_none : Pl .none := pl_iff.mpr ⟨rfl, (show 0 ≤ 64 by decide)⟩
theorem pl_bool (b : Bool) : Pl (.bool b) := pl_iff.mpr ⟨rfl, (show 0 ≤ 64 by decide)⟩
theorem pl_tup {xs : List D} {n : Nat} (hn : n < 64) (h : ∀ x ∈ xs, Pl x ∧ x.depth ≤ n) : Pl (.tuple xs) := by
  refine pl_iff.mpr ⟨canLay_all.mpr fun x hx => (pl_iff.mp (h x hx).1).1, ?_⟩
  show PyData.depthAll xs + 1 ≤ 64
  have : PyData.depthAll xs ≤ n := depth_all.mpr fun x hx => (h x hx).2
  omega
theorem pl_lst {xs : List D} {n : Nat} (hn : n < 64) (h : ∀ x ∈ xs, Pl x ∧ x.depth ≤ n) : Pl (.list xs) := by
  refine pl_iff.mpr ⟨canLay_all.mpr fun x hx => (pl_iff.mp (h x hx).1).1, ?_⟩
  show PyData.depthAll xs + 1 ≤ 64
  have : PyData.depthAll xs ≤ n := depth_all.mpr fun x hx => (h x hx).2
  omega
/-- a != a -/
theorem ne_self {x : D} (h : Pl x) (hr : PyData.eqv x x = true) : (opD .ne x x).bind boolD = some false := by
  rw [op_ne h h, hr]
  rfl
mutual
/-- equal to itself (data without dicts) -/
theorem eqv_self : ∀ d : D, d.canLay0 = true → PyData.eqv d d = true
  | .none, _ => by simp [PyData.eqv]
  | .bool b, _ => by simp [PyData.eqv]
  | .int i, _ => by simp [PyData.eqv]
  | .str x, _ => by simp [PyData.eqv]
  | .list xs, h => by
    rw [PyData.eqv]
    exact eqvAll_self xs (by simpa [PyData.canLay0] using h)
  | .tuple xs, h => by
    rw [PyData.eqv]
    exact eqvAll_self xs (by simpa [PyData.canLay0] using h)
  | .dict kvs, h => by simp [PyData.canLay0] at h
theorem eqvAll_self : ∀ xs : List D, PyData.canLayAll0 xs = true → PyData.eqvAll xs xs = true
  | [], _ => by simp [PyData.eqvAll]
  | x :: xs, h => by
    rw [PyData.canLayAll0, Bool.and_eq_true] at h
    rw [PyData.eqvAll, eqv_self x h.1, eqvAll_self xs h.2]
    rfl
end
theorem ne_same {x : D} (h : Pl x) : (opD .ne x x).bind boolD = some false := ne_self h (eqv_self x (pl_iff.mp h).1)
theorem eq_same {x : D} (h : Pl x) : (opD .eq x x).bind boolD = some true := by
  rw [op_eq h h, eqv_self x (pl_iff.mp h).1]
  rfl
theorem pl_vts (ns : List Int) (cs : List (List (Int × Int))) : Pl (.tuple ((vts ns cs).map tsD)) ∧ Pl (.list ((vts ns cs).map tsD)) := by
  have : ∀ x ∈ (vts ns cs).map tsD, Pl x ∧ x.depth ≤ 1 := fun x hx => by
    obtain ⟨t, _, rfl⟩ := List.mem_map.mp hx
    exact ⟨pl_ts t, depth_ts t⟩
  exact ⟨pl_tup (by decide) this, pl_lst (by decide) this⟩
end Ev

set_option Elab.async false
set_option linter.all false
set_option maxRecDepth 100000
set_option autoImplicit false
/-! EvQ1: subsets, projections and what is possible. -/
namespace Ev
open PySem
/-- lo, .. hi - 1 -/
def rngI (lo hi : Int) : List Int := (List.range (hi - lo).toNat).map fun (k : Nat) => lo + k
theorem mem_rngI {lo hi x : Int} : x ∈ rngI lo hi ↔ lo ≤ x ∧ x < hi := by
  unfold rngI
  simp only [List.mem_map, List.mem_range]
  constructor
  · rintro ⟨k, hk, rfl⟩; omega
  · intro h; exact ⟨(x - lo).toNat, by omega, by omega⟩
theorem rngI_asc (lo hi : Int) : (rngI lo hi).Pairwise (· < ·) := by
  unfold rngI
  rw [List.pairwise_map]
  exact List.pairwise_lt_range.imp fun h => by omega
theorem rngI_len (lo hi : Int) : (rngI lo hi).length = (hi - lo).toNat := by simp [rngI]
theorem rangeD_ok {lo hi : Int} (h0 : 0 ≤ lo) (h1 : lo < 16777216) (h2 : -1 ≤ hi) (h3 : hi < 16777216) : rangeD lo hi = some ((rngI lo hi).map .int) := by
  unfold rangeD
  rw [if_pos ⟨by omega, by omega, by omega, by omega, by unfold LIM; omega⟩]
  simp [rngI, Function.comp_def]
/-- where the next index may begin -/
def nxt (r : List Int) : Int := match r.getLast? with
  | some x => x + 1
  | none => 0
theorem nxt_snoc (r : List Int) (x : Int) : nxt (r ++ [x]) = x + 1 := by simp [nxt]
def subS (m : Int) (rows : List (List Int)) : List (List Int) := rows.flatMap fun r => (rngI (nxt r) m).map fun v => r ++ [v]
def subs (m : Int) : Nat → List (List Int)
  | 0 => [[]]
  | k + 1 => subS m (subs m k)
theorem lt_nxt {r : List Int} (h : r.Pairwise (· < ·)) : ∀ x ∈ r, x < nxt r := by
  rcases List.eq_nil_or_concat r with e | ⟨l, y, e⟩
  · subst e; simp
  · subst e
    rw [List.concat_eq_append] at h ⊢
    rw [nxt_snoc]
    intro x hx
    rcases List.mem_append.mp hx with hx | hx
    · have := (List.pairwise_append.mp h).2.2 x hx y (by simp)
      omega
    · rw [List.mem_singleton] at hx
      omega
theorem nxt_nonneg {r : List Int} (h : ∀ x ∈ r, 0 ≤ x) : 0 ≤ nxt r := by
  rcases List.eq_nil_or_concat r with e | ⟨l, y, e⟩
  · subst e; simp [nxt]
  · subst e
    rw [List.concat_eq_append] at h ⊢
    rw [nxt_snoc]
    have := h y (by simp)
    omega
theorem mem_subs (m : Int) : ∀ (k : Nat) (r : List Int), r ∈ subs m k ↔ r.length = k ∧ r.Pairwise (· < ·) ∧ ∀ x ∈ r, 0 ≤ x ∧ x < m
  | 0, r => by
    simp only [subs, List.mem_singleton]
    constructor
    · rintro rfl; simp
    · rintro ⟨h, _⟩; exact List.length_eq_zero_iff.mp h
  | k + 1, r => by
    simp only [subs, subS, List.mem_flatMap, List.mem_map, mem_rngI]
    constructor
    · rintro ⟨r', hr, v, ⟨h1, h2⟩, rfl⟩
      obtain ⟨e1, e2, e3⟩ := (mem_subs m k r').mp hr
      have n0 := nxt_nonneg (r := r') fun x hx => (e3 x hx).1
      refine ⟨by simp [e1], List.pairwise_append.mpr ⟨e2, by simp, fun a ha b hb => ?_⟩, fun x hx => ?_⟩
      · rw [List.mem_singleton] at hb
        have := lt_nxt e2 a ha
        omega
      · rcases List.mem_append.mp hx with hx | hx
        · exact e3 x hx
        · rw [List.mem_singleton] at hx
          omega
    · rintro ⟨e1, e2, e3⟩
      rcases List.eq_nil_or_concat r with e | ⟨l, y, e⟩
      · subst e; simp at e1
      · subst e
        rw [List.concat_eq_append] at e1 e2 e3 ⊢
        have ha := List.pairwise_append.mp e2
        refine ⟨l, (mem_subs m k l).mpr ⟨by simpa using e1, ha.1, fun x hx => e3 x (by simp [hx])⟩, y, ⟨?_, (e3 y (by simp)).2⟩, rfl⟩
        rcases List.eq_nil_or_concat l with e | ⟨l', z, e⟩
        · subst e
          have := (e3 y (by simp)).1
          simpa [nxt] using this
        · subst e
          rw [List.concat_eq_append] at ha ⊢
          rw [nxt_snoc]
          have := ha.2.2 z (by simp) y (by simp)
          omega
theorem flatMap_len_le {α β : Type} (f : α → List β) (c : Nat) : ∀ l : List α, (∀ x ∈ l, (f x).length ≤ c) → (l.flatMap f).length ≤ l.length * c
  | [], _ => by simp
  | x :: l, h => by
    rw [List.flatMap_cons, List.length_append, List.length_cons, Nat.succ_mul]
    have h1 := h x List.mem_cons_self
    have h2 := flatMap_len_le f c l fun y hy => h y (List.mem_cons_of_mem _ hy)
    omega
theorem subs_len (m : Int) : ∀ k : Nat, (subs m k).length ≤ m.toNat ^ k
  | 0 => by simp [subs]
  | k + 1 => by
    have h1 := subs_len m k
    have h2 : (subs m (k + 1)).length ≤ (subs m k).length * m.toNat := by
      refine flatMap_len_le _ _ _ fun r hr => ?_
      have n0 := nxt_nonneg (r := r) fun x hx => (((mem_subs m k r).mp hr).2.2 x hx).1
      rw [List.length_map, rngI_len]
      omega
    rw [Nat.pow_succ]
    exact Nat.le_trans h2 (Nat.mul_le_mul_right _ h1)
/-- in the order of lists -/
theorem subs_asc (m : Int) : ∀ k : Nat, (subs m k).Pairwise (· < ·)
  | 0 => by simp [subs]
  | k + 1 => by
    have ih := subs_asc m k
    show (subS m (subs m k)).Pairwise (· < ·)
    unfold subS
    rw [List.pairwise_flatMap]
    refine ⟨fun r hr => ?_, ?_⟩
    · rw [List.pairwise_map]
      exact (rngI_asc _ _).imp fun h => lex_same r h
    · have hl : ∀ r ∈ subs m k, r.length = k := fun r hr => ((mem_subs m k r).mp hr).1
      refine (List.Pairwise.and_mem.mp ih).imp ?_
      rintro a b ⟨ha, hb, hab⟩ x hx y hy
      obtain ⟨u, _, rfl⟩ := List.mem_map.mp hx
      obtain ⟨v, _, rfl⟩ := List.mem_map.mp hy
      exact lex_append _ _ (by rw [hl a ha, hl b hb]) hab
/-! ### subsets(many, size) -/
theorem ixD_last (r : List Int) (x : Int) : ixD (szD (r ++ [x])) (.int (-1)) = some (.int x) := by
  show (ixI (List.map PyData.int (r ++ [x])).length (-1)).bind _ = _
  have : ixI (List.map PyData.int (r ++ [x])).length (-1) = some r.length := by
    unfold ixI
    rw [if_neg (by decide), if_pos (by simp; omega)]
    simp
    omega
  rw [this]
  simp
abbrev SubsOk (cf : CF) (i : Nat) : Prop := ∀ (m : Int) (k : Nat), 0 ≤ m → m ≤ 6 → k ≤ 6 → cf i [.int m, .int k] = ret (.list ((subs m k).map tsD))
theorem pow6 {m k : Nat} (hm : m ≤ 6) (hk : k ≤ 6) : m ^ k ≤ 46656 :=
  Nat.le_trans (Nat.pow_le_pow_left hm k) (Nat.le_trans (Nat.pow_le_pow_right (by decide) hk) (by decide))
theorem subs_succ (m : Int) (k : Nat) : subs m (k + 1) = subS m (subs m k) := by rw [subs]
theorem subs_small {m : Int} {k : Nat} (hm : m ≤ 6) (hk : k ≤ 6) : (subs m k).length ≤ 46656 :=
  Nat.le_trans (subs_len m k) (pow6 (by omega) hk)
theorem subS_take {m : Int} {R : List (List Int)} {i : Nat} {r : List Int} (hr : R[i]? = some r) : (subS m (R.take i)).length + (rngI (nxt r) m).length ≤ (subS m R).length := by
  have hi : i < R.length := (List.getElem?_eq_some_iff.mp hr).1
  have e : R = R.take i ++ r :: R.drop (i + 1) := by
    have := List.take_append_drop i R
    rw [List.drop_eq_getElem_cons hi, (List.getElem?_eq_some_iff.mp hr).2] at this
    exact this.symm
  have e2 : subS m R = subS m (R.take i) ++ ((rngI (nxt r) m).map (fun v => r ++ [v]) ++ subS m (R.drop (i + 1))) := by
    conv => lhs; rw [e]
    simp [subS]
  rw [e2, List.length_append, List.length_append, List.length_map]
  omega
theorem ev_subsets {cf : CF} (fu : Nat) {m ki : Int} {k : Nat} {RR : D} (h0 : 0 ≤ m) (hm : m ≤ 6) (hk : k ≤ 6) (hki : ki = k) (hRR : RR = .list ((subs m k).map tsD)) : runF cf fu f_subsets [.int m, .int ki] = ret RR := by
  rw [run_code cf fu (f := f_subsets) rfl (s0 := [some (.i (.int m)), some (.i (.int ki)), none, none, none, none, none, none]) rfl]
  have hr : rangeD 0 ki = some ((List.range k).map fun (j : Nat) => .int j) := by
    rw [range_ok (by omega) (by omega), hki]
    rfl
  simp [f_subsets, bindT, LIM, hr]
  refine Pu.eq (Pu.bnd (Pu.forM (fun (j : Nat) => PyData.int j) (List.range k) rfl (fun j s => ∃ x3 x4 x5 x6 x7, s = [some (.i (.int m)), some (.i (.int ki)), some (.i (.list ((subs m j).map tsD))), x3, x4, x5, x6, x7]) ⟨none, none, none, none, none, rfl⟩ ?_) ?_)
  · rintro j jj s hj ⟨x3, x4, x5, x6, x7, rfl⟩
    have hjk : j < k := by
      have := (List.getElem?_eq_some_iff.mp hj).1
      simpa using this
    simp [turnF, bindT, LIM, mutS, seqD]
    have es : subs m (j + 1) = subS m (subs m j) := subs_succ _ _
    have hL : (subS m (subs m j)).length ≤ 46656 := by
      rw [← es]
      exact subs_small hm (by omega)
    rw [es]
    clear es
    have hmem : ∀ r ∈ subs m j, r.length = j ∧ r.Pairwise (· < ·) ∧ ∀ x ∈ r, 0 ≤ x ∧ x < m := fun r hr => (mem_subs m j r).mp hr
    generalize hR : subs m j = R at *
    refine Pu.bnd (Pu.forM tsD R rfl (fun i s => ∃ y5 y6 y7, s = [some (.i (.int m)), some (.i (.int ki)), some (.i (.list (R.map tsD))), some (.i (.int jj)), some (.l ((subS m (R.take i)).map tsD)), y5, y6, y7]) ⟨x5, x6, x7, rfl⟩ ?_) ?_
    · rintro i r s hr ⟨y5, y6, y7, rfl⟩
      obtain ⟨q1, q2, q3⟩ := hmem r (List.mem_of_getElem? hr)
      have n0 := nxt_nonneg (r := r) fun x hx => (q3 x hx).1
      have n1 : nxt r ≤ m := by
        rcases List.eq_nil_or_concat r with e | ⟨l, y, e⟩
        · subst e; simp [nxt]; exact h0
        · subst e
          rw [List.concat_eq_append] at q3 ⊢
          rw [nxt_snoc]
          have := (q3 y (by simp)).2
          omega
      have hst : ∀ s : Sl, getP s 5 = some (tsD r) → evE cf (.ite (.val (.pk 5)) (.op .add (.ix (.pk 5) (.neg (.int 1))) (.int 1)) (.int 0)) s = ret (.int (nxt r)) := fun s hs => by
        rcases List.eq_nil_or_concat r with e | ⟨l, y, e⟩
        · subst e
          simp [hs, tsD, szD, truD, nxt]
        · subst e
          rw [List.concat_eq_append] at hs ⊢
          rw [nxt_snoc]
          have : truD (tsD (l ++ [y])) = some true := by simp [tsD, szD, truD]
          have il : ixD (tsD (l ++ [y])) (.int (-1)) = some (.int y) := ixD_last l y
          simp [hs, this, il]
      have hl : r.length ≤ 6 := by omega
      have hlen : (subS m (R.take i)).length + (rngI (nxt r) m).length ≤ 46656 := Nat.le_trans (subS_take hr) hL
      simp only [turnF, bindT, m_lift, m_bnd, List.length_cons, List.length_nil, Nat.reduceAdd, Nat.reduceLT, if_true, List.set_cons_succ, List.set_cons_zero, b_cons, s_set, m_assoc]
      refine Pu.bndE (hst _ rfl) ?_
      simp [bindT]
      refine Pu.compM PyData.int (rngI (nxt r) m) (fun v => tsD (r ++ [v])) (by simp [rangeD_ok n0 (by omega : nxt r < 16777216) (by omega : (-1 : Int) ≤ m) (by omega : (m : Int) < 16777216)]) (fun v _ => ?_) ?_
      · simp [turnC, wipeA, bindT, LIM, add_ts r v (by omega)]
      · simp only [lstD, m_lift, m_bnd]
        rw [if_pos (by simp only [List.length_map]; unfold LIM; omega), m_bnd, at_nx, b_nil]
        refine Pu.nx ⟨some (.i (tsD r)), some (.i (.int (nxt r))), y7, ?_⟩
        have tk : R.take (i + 1) = R.take i ++ [r] := by rw [List.take_add_one, hr]; rfl
        rw [tk]
        simp [subS, Function.comp_def]
    · rintro fl ⟨s', rfl, y5, y6, y7, rfl⟩
      simp [frzS, bindT, List.take_length]
      exact Pu.nx ⟨_, _, _, _, _, rfl⟩
  · rintro fl ⟨s', rfl, x3, x4, x5, x6, x7, rfl⟩
    simp
    exact .ret hRR.symm
/-! ### projections -/
def proj (t ps : List Int) : List (Int × Int) := ps.map fun i => (i, t.getD i.toNat 0)
abbrev ProjOk (cf : CF) (i : Nat) : Prop := ∀ t ps, (∀ x ∈ ps, 0 ≤ x ∧ x < (t.length : Int)) → cf i [tsD t, tsD ps] = ret (cbD (proj t ps))
theorem ev_projection {cf : CF} (fu : Nat) {t ps : List Int} (h : ∀ x ∈ ps, 0 ≤ x ∧ x < (t.length : Int)) : runF cf fu f_projection [tsD t, tsD ps] = ret (cbD (proj t ps)) := by
  rw [run_code cf fu (f := f_projection) rfl (s0 := [some (.i (tsD t)), some (.i (tsD ps)), none]) rfl]
  simp [f_projection]
  refine bnd_compM PyData.int ps (fun i => prI (i, t.getD i.toNat 0)) (by simp [tsD, szD, seqD]) (fun i hi => ?_) ?_
  · obtain ⟨h0, h1⟩ := h i hi
    simp [turnC, wipeA, bindT, LIM, ixD_ts h0 h1, prI]
  · simp [biD, tupleD, cbD, proj, Function.comp_def]
def prjs (t : List Int) (k : Nat) : List (List (Int × Int)) := (subs t.length k).map (proj t)
abbrev PrjsOk (cf : CF) (i : Nat) : Prop := ∀ (t : List Int) (k : Nat), t.length ≤ 6 → k ≤ 6 → cf i [tsD t, .int k] = ret (.list ((prjs t k).map cbD))
theorem ev_projections {cf : CF} {ip is : Nat} (fu : Nat) (hP : ProjOk cf ip) (hS : SubsOk cf is) {t : List Int} {k : Nat} (ht : t.length ≤ 6) (hk : k ≤ 6) : runF cf fu (f_projections ip is) [tsD t, .int k] = ret (.list ((prjs t k).map cbD)) := by
  rw [run_code cf fu (f := f_projections ip is) rfl (s0 := [some (.i (tsD t)), some (.i (.int k)), none]) rfl]
  have hl : biD .len (tsD t) = some (.int t.length) := len_sz t
  simp [f_projections]
  refine bnd_compM tsD (subs t.length k) (fun ps => cbD (proj t ps)) (by simp [hl, hS t.length k (by omega) (by omega) hk, seqD]) (fun ps hp => ?_) ?_
  · have := hP t ps ((mem_subs _ _ ps).mp hp).2.2
    simp [turnC, wipeA, bindT, this]
  · simp [prjs, Function.comp_def]
/-! ### dicts whose keys are combinations -/
theorem eqv_prI {a c : Int × Int} : PyData.eqv (prI a) (prI c) = decide (a = c) := by
  obtain ⟨a1, a2⟩ := a
  obtain ⟨c1, c2⟩ := c
  simp only [prI, PyData.eqv, PyData.eqvAll]
  rw [Bool.eq_iff_iff]
  simp
theorem eqvAll_prs : ∀ a c : List (Int × Int), PyData.eqvAll (a.map prI) (c.map prI) = decide (a = c)
  | [], [] => by simp [PyData.eqvAll]
  | [], _ :: _ => by simp [PyData.eqvAll]
  | _ :: _, [] => by simp [PyData.eqvAll]
  | a :: as, c :: cs => by
    rw [List.map_cons, List.map_cons, PyData.eqvAll, eqv_prI, eqvAll_prs as cs, Bool.eq_iff_iff]
    simp
theorem eqv_cb (a c : List (Int × Int)) : PyData.eqv (cbD a) (cbD c) = decide (a = c) := by
  rw [cbD, cbD, PyData.eqv]
  exact eqvAll_prs a c
theorem hkAll_prs : ∀ c : List (Int × Int), hkAll (c.map prI) = true
  | [] => rfl
  | p :: c => by rw [List.map_cons, hkAll, hkAll_prs c]; simp [prI, hkOk, hkAll]
theorem tk_cb (c : List (Int × Int)) : tkOk (cbD c) = true := by
  have h : (cbD c).depth ≤ 2 := by
    show PyData.depthAll (c.map prI) + 1 ≤ 2
    have : PyData.depthAll (c.map prI) ≤ 1 := depth_all.mpr fun x hx => by
      obtain ⟨p, _, rfl⟩ := List.mem_map.mp hx
      exact Nat.le_refl _
    omega
  simp only [tkOk, Bool.and_eq_true, decide_eq_true_eq]
  exact ⟨⟨rfl, by rw [cbD, hkOk]; exact hkAll_prs c⟩, by omega⟩
/-- a dict of combinations, all True -/
def kvT (l : List (List (Int × Int))) : List (D × D) := l.map fun c => (cbD c, .bool true)
def insU (acc : List (List (Int × Int))) (c : List (Int × Int)) : List (List (Int × Int)) := if c ∈ acc then acc else acc ++ [c]
theorem tk_kvT (l : List (List (Int × Int))) : ((kvT l).all fun p => tkOk p.1) = true := by
  rw [List.all_eq_true]
  intro p hp
  obtain ⟨c, _, rfl⟩ := List.mem_map.mp hp
  exact tk_cb c
theorem kd_kvT (l : List (List (Int × Int))) : kdOk (kvT l) = true := by
  unfold kdOk
  rw [tk_kvT l, Bool.or_true]
theorem ky_kvT (c : List (Int × Int)) (l : List (List (Int × Int))) : kyOk (cbD c) (kvT l) = true := by
  unfold kyOk
  rw [tk_kvT l, tk_cb c]
  exact Bool.or_true _
theorem any_kvT (c : List (Int × Int)) (l : List (List (Int × Int))) : ((kvT l).any fun p => PyData.eqv p.1 (cbD c)) = decide (c ∈ l) := by
  unfold kvT
  rw [List.any_map, Bool.eq_iff_iff]
  simp [List.any_eq_true, eqv_cb]
theorem putD_kvT (c : List (Int × Int)) (l : List (List (Int × Int))) : putD (cbD c) (.bool true) (kvT l) = kvT (insU l c) := by
  unfold putD insU
  rw [any_kvT]
  by_cases h : c ∈ l
  · rw [if_pos (decide_eq_true h), if_pos h]
    unfold kvT
    rw [List.map_map]
    refine List.map_congr_left fun x _ => ?_
    show (if _ then _ else _) = _
    split <;> rfl
  · rw [if_neg (by simpa using h), if_neg h]
    simp [kvT]
theorem lookD_kvT (c : List (Int × Int)) : ∀ l : List (List (Int × Int)), (lookD (kvT l) (cbD c)).isSome = decide (c ∈ l)
  | [] => by simp [kvT, lookD]
  | x :: l => by
    have ih := lookD_kvT c l
    show (if PyData.eqv (cbD x) (cbD c) = true then some (PyData.bool true) else lookD (kvT l) (cbD c)).isSome = _
    rw [eqv_cb]
    by_cases h : x = c
    · simp [h]
    · rw [if_neg (by simpa using h), ih]
      simp [Ne.symm h]
theorem in_kvT (c : List (Int × Int)) (l : List (List (Int × Int))) : inD (cbD c) (.dict (kvT l)) = some (decide (c ∈ l)) := by
  show (if kyOk (cbD c) (kvT l) then some (lookD (kvT l) (cbD c)).isSome else none) = _
  rw [if_pos (ky_kvT c l), lookD_kvT]
theorem seq_kvT (l : List (List (Int × Int))) : seqD (.dict (kvT l)) = some (l.map cbD) := by
  show (if kdOk (kvT l) then some ((kvT l).map (·.1)) else none) = _
  rw [if_pos (kd_kvT l)]
  simp [kvT, Function.comp_def]
theorem insU_mem {acc : List (List (Int × Int))} {c x : List (Int × Int)} : x ∈ insU acc c ↔ x ∈ acc ∨ x = c := by
  unfold insU
  split
  · rename_i h
    constructor
    · exact .inl
    · rintro (h' | rfl)
      · exact h'
      · exact h
  · simp
theorem insU_all_mem : ∀ (l acc : List (List (Int × Int))) (x : List (Int × Int)), x ∈ l.foldl insU acc ↔ x ∈ acc ∨ x ∈ l
  | [], acc, x => by simp
  | c :: l, acc, x => by
    rw [List.foldl_cons, insU_all_mem l, insU_mem, List.mem_cons, or_assoc]
theorem insU_nodup {acc : List (List (Int × Int))} {c : List (Int × Int)} (h : acc.Nodup) : (insU acc c).Nodup := by
  unfold insU
  split
  · exact h
  · rename_i hc
    exact List.nodup_append.mpr ⟨h, by simp, fun a ha b hb => by
      rw [List.mem_singleton] at hb
      rintro rfl
      exact hc (hb ▸ ha)⟩
theorem insU_all_nodup : ∀ (l : List (List (Int × Int))) {acc : List (List (Int × Int))}, acc.Nodup → (l.foldl insU acc).Nodup
  | [], _, h => h
  | _ :: l, _, h => insU_all_nodup l (insU_nodup h)
theorem insU_len (acc : List (List (Int × Int))) (c : List (Int × Int)) : (insU acc c).length ≤ acc.length + 1 := by
  unfold insU
  split <;> simp
theorem insU_all_len : ∀ (l acc : List (List (Int × Int))), (l.foldl insU acc).length ≤ acc.length + l.length
  | [], acc => by simp
  | c :: l, acc => by
    have h1 := insU_all_len l (insU acc c)
    have h2 := insU_len acc c
    rw [List.foldl_cons, List.length_cons]
    omega
end Ev

set_option Elab.async false
set_option linter.all false
set_option maxRecDepth 100000
set_option autoImplicit false
/-! EvQ2: possible_of, extensions. -/
namespace Ev
open PySem
/-- the keys of possible_of, in their order -/
def prjA (ts : List (List Int)) (k : Nat) : List (List (Int × Int)) := ts.flatMap fun t => prjs t k
def posK (ts : List (List Int)) (k : Nat) : List (List (Int × Int)) := (prjA ts k).foldl insU []
structure Sml (ns : List Int) : Prop where
  b : SmallB ns
  len : ns.length ≤ 5
  rows : (rowsB ns).length ≤ 1024
abbrev InR (ns : List Int) (cs : List (List (Int × Int))) : Prop := ∀ c ∈ cs, ∀ p ∈ c, 0 ≤ p.1 ∧ p.1 < (ns.length : Int)
abbrev PosOk (cf : CF) (i : Nat) : Prop := ∀ ns cs (k : Nat), Sml ns → k ≤ 5 → InR ns cs → cf i [mdD ns cs, .int k] = ret (.dict (kvT (posK (vts ns cs) k)))
theorem prjs_len {t : List Int} {k : Nat} (ht : t.length ≤ 5) (hk : k ≤ 5) : (prjs t k).length ≤ 3125 := by
  unfold prjs
  rw [List.length_map]
  refine Nat.le_trans (subs_len _ k) ?_
  refine Nat.le_trans (Nat.pow_le_pow_left (by omega : (t.length : Int).toNat ≤ 5) k) ?_
  exact Nat.le_trans (Nat.pow_le_pow_right (by decide) hk) (by decide)
theorem vts_rows {ns : List Int} {cs : List (List (Int × Int))} (h : Sml ns) : (vts ns cs).length ≤ 1024 ∧ ∀ t ∈ vts ns cs, t.length = ns.length := by
  refine ⟨Nat.le_trans (List.length_filter_le ..) h.rows, fun t ht => ?_⟩
  exact (mem_vts.mp ht).1.1
theorem prjA_take {ts : List (List Int)} {k i : Nat} {t : List Int} (h : ts[i]? = some t) : prjA (ts.take (i + 1)) k = prjA (ts.take i) k ++ prjs t k := by
  unfold prjA
  rw [List.take_add_one, h]
  simp
theorem prjA_len {ts : List (List Int)} {k : Nat} (hl : ts.length ≤ 1024) (ht : ∀ t ∈ ts, t.length ≤ 5) (hk : k ≤ 5) : (prjA ts k).length ≤ 3200000 := by
  refine Nat.le_trans (flatMap_len_le _ 3125 ts fun t h => prjs_len (ht t h) hk) ?_
  omega
theorem ev_possible_of {cf : CF} {ia ip : Nat} (fu : Nat) (hA : AllT cf ia) (hP : PrjsOk cf ip) {ns : List Int} {cs : List (List (Int × Int))} {k : Nat} {ki : Int} {RR : D} (hs : Sml ns) (hk : k ≤ 5) (hc : InR ns cs) (hki : ki = k) (hRR : RR = .dict (kvT (posK (vts ns cs) k))) :
    runF cf fu (f_possible_of ia ip) [mdD ns cs, .int ki] = ret RR := by
  rw [run_code cf fu (f := f_possible_of ia ip) rfl (s0 := [some (.i (mdD ns cs)), some (.i (.int ki)), none, none, none]) rfl]
  obtain ⟨v1, v2⟩ := vts_rows (cs := cs) hs
  have hA' := hA ns cs hs.b hc
  have hP' : ∀ t ∈ vts ns cs, cf ip [tsD t, .int ki] = ret (.list ((prjs t k).map cbD)) := fun t ht => by
    rw [hki]
    exact hP t k (by have := v2 t ht; have := hs.len; omega) (by omega)
  have v3 : ∀ t ∈ vts ns cs, t.length ≤ 5 := fun t ht => by rw [v2 t ht]; exact hs.len
  have hn := hs.len
  clear hA hP hki
  generalize hts : vts ns cs = ts at *
  simp [f_possible_of, bindT, mutS, hA', seqD]
  refine Pu.eq (Pu.bnd (Pu.forM tsD ts rfl (fun i s => ∃ x3 x4, s = [some (.i (mdD ns cs)), some (.i (.int ki)), some (.m (kvT ((prjA (ts.take i) k).foldl insU []))), x3, x4]) ⟨none, none, rfl⟩ ?_) ?_)
  · rintro i t s ht ⟨x3, x4, rfl⟩
    have htm := List.mem_of_getElem? ht
    have hlen : (prjA (ts.take (i + 1)) k).length ≤ 3200000 := prjA_len (Nat.le_trans (List.length_take_le' ..) v1) (fun x hx => v3 x (List.mem_of_mem_take hx)) hk
    rw [prjA_take ht, List.length_append] at hlen
    rw [prjA_take ht, List.foldl_append]
    have ha := insU_all_len (prjA (ts.take i) k) []
    generalize (prjA (ts.take i) k).foldl insU [] = acc at *
    have hQ := hP' t htm
    generalize prjs t k = ps at *
    simp [turnF, bindT, hQ, seqD]
    refine (Pu.forM cbD ps rfl (fun j s => ∃ y4, s = [some (.i (mdD ns cs)), some (.i (.int ki)), some (.m (kvT ((ps.take j).foldl insU acc))), some (.i (tsD t)), y4]) ⟨x4, rfl⟩ ?_).bnd ?_
    · rintro j c s hj ⟨y4, rfl⟩
      have hjl : j < ps.length := (List.getElem?_eq_some_iff.mp hj).1
      have hb := insU_all_len (ps.take j) acc
      have htl := List.length_take_le' j ps
      have e1 : (ps.take (j + 1)).foldl insU acc = insU ((ps.take j).foldl insU acc) c := by
        rw [List.take_add_one, hj, List.foldl_append]
        rfl
      rw [e1]
      generalize (ps.take j).foldl insU acc = bcc at *
      have hlt : (kvT bcc).length < LIM := by
        unfold kvT LIM
        rw [List.length_map]
        rw [List.length_nil] at ha
        omega
      have hky := ky_kvT c bcc
      simp [turnF, bindT, hky, hlt, putD_kvT]
      exact Pu.nx ⟨_, rfl⟩
    · rintro fl ⟨s', rfl, y4, rfl⟩
      simp [List.take_length]
      exact Pu.nx ⟨_, _, rfl⟩
  · rintro fl ⟨s', rfl, x3, x4, rfl⟩
    simp [frzS, List.take_length]
    exact .ret hRR.symm
/-! ### extensions(sizes, combination) -/
def nxtC (c : List (Int × Int)) : Int := match c.getLast? with
  | some p => p.1 + 1
  | none => 0
theorem nxtC_snoc (c : List (Int × Int)) (p : Int × Int) : nxtC (c ++ [p]) = p.1 + 1 := by simp [nxtC]
def exts (ns : List Int) (c : List (Int × Int)) : List (List (Int × Int)) := (rngI (nxtC c) ns.length).flatMap fun p => (rngI 0 (ns.getD p.toNat 0)).map fun v => c ++ [(p, v)]
theorem mem_exts {ns : List Int} {c d : List (Int × Int)} : d ∈ exts ns c ↔ ∃ p v, nxtC c ≤ p ∧ p < ns.length ∧ 0 ≤ v ∧ v < ns.getD p.toNat 0 ∧ d = c ++ [(p, v)] := by
  unfold exts
  simp only [List.mem_flatMap, List.mem_map, mem_rngI]
  constructor
  · rintro ⟨p, ⟨h1, h2⟩, v, ⟨h3, h4⟩, rfl⟩
    exact ⟨p, v, h1, h2, h3, h4, rfl⟩
  · rintro ⟨p, v, h1, h2, h3, h4, rfl⟩
    exact ⟨p, ⟨h1, h2⟩, v, ⟨h3, h4⟩, rfl⟩
abbrev ExtOk (cf : CF) (i : Nat) : Prop := ∀ ns c, Sml ns → c.length ≤ 10 → 0 ≤ nxtC c → nxtC c ≤ 1000 → cf i [szD ns, cbD c] = ret (.list ((exts ns c).map cbD))
theorem ixC_last (c : List (Int × Int)) (p : Int × Int) : ixD (cbD (c ++ [p])) (.int (-1)) = some (prI p) := by
  show (ixI (List.map prI (c ++ [p])).length (-1)).bind _ = _
  have : ixI (List.map prI (c ++ [p])).length (-1) = some c.length := by
    unfold ixI
    rw [if_neg (by decide), if_pos (by simp; omega)]
    simp
    omega
  rw [this]
  simp
theorem add_cb (c : List (Int × Int)) (p v : Int) (h : c.length ≤ 100) : opD .add (cbD c) (.tuple [.tuple [.int p, .int v]]) = some (cbD (c ++ [(p, v)])) := by
  show (if (c.map prI).length + 1 ≤ LIM then _ else _) = _
  rw [if_pos (by rw [List.length_map]; unfold LIM; omega)]
  unfold cbD
  rw [List.map_append]
  rfl
def extP (ns : List Int) (c : List (Int × Int)) (ps : List Int) : List (List (Int × Int)) := ps.flatMap fun p => (rngI 0 (ns.getD p.toNat 0)).map fun v => c ++ [(p, v)]
theorem ev_extensions {cf : CF} (fu : Nat) {ns : List Int} {c : List (Int × Int)} {RR : D} (hs : Sml ns) (hl : c.length ≤ 10) (h0 : 0 ≤ nxtC c) (h1 : nxtC c ≤ 1000) (hRR : RR = .list ((exts ns c).map cbD)) : runF cf fu f_extensions [szD ns, cbD c] = ret RR := by
  rw [run_code cf fu (f := f_extensions) rfl (s0 := [some (.i (szD ns)), some (.i (cbD c)), none, none, none, none]) rfl]
  have hst : ∀ s : Sl, getP s 1 = some (cbD c) → evE cf (.ite (.val (.pk 1)) (.op .add (.ix (.ix (.pk 1) (.neg (.int 1))) (.int 0)) (.int 1)) (.int 0)) s = ret (.int (nxtC c)) := fun s hg => by
    rcases List.eq_nil_or_concat c with e | ⟨l, y, e⟩
    · subst e
      simp [hg, cbD, truD, nxtC]
    · subst e
      rw [List.concat_eq_append] at hg ⊢
      rw [nxtC_snoc]
      have ht : truD (cbD (l ++ [y])) = some true := by simp [cbD, truD]
      have il : ixD (cbD (l ++ [y])) (.int (-1)) = some (prI y) := ixC_last l y
      have i0 : ixD (prI y) (.int 0) = some (.int y.1) := rfl
      simp [hg, ht, il, i0]
  have hn := hs.len
  have hln : biD .len (szD ns) = some (.int ns.length) := len_sz ns
  have hrg : rangeD (nxtC c) ns.length = some ((rngI (nxtC c) ns.length).map .int) := rangeD_ok h0 (by omega) (by omega) (by omega)
  have hpl : ∀ p ∈ rngI (nxtC c) ns.length, 0 ≤ p ∧ p < ns.length := fun p hp => by
    have := mem_rngI.mp hp
    omega
  have hps : (rngI (nxtC c) ns.length).length ≤ 5 := by
    rw [rngI_len]
    omega
  have hE : exts ns c = extP ns c (rngI (nxtC c) ns.length) := rfl
  rw [hE] at hRR
  clear hE
  generalize nxtC c = nc at *
  generalize hnl : (ns.length : Int) = nl at *
  generalize rngI nc nl = ps at *
  simp only [f_extensions, b_cons, s_par, m_assoc]
  refine Pu.eq (Pu.bndE (hst _ rfl) ?_)
  simp [mutS, LIM, hln, hrg]
  refine Pu.bnd (Pu.forM PyData.int ps rfl (fun i s => ∃ x4 x5, s = [some (.i (szD ns)), some (.i (cbD c)), some (.i (.int nc)), some (.l ((extP ns c (ps.take i)).map cbD)), x4, x5]) ⟨none, none, rfl⟩ ?_) ?_
  · rintro i p s hp ⟨x4, x5, rfl⟩
    obtain ⟨p0, p1⟩ := hpl p (List.mem_of_getElem? hp)
    have hnm : ns.getD p.toNat 0 ∈ ns := getD_mem p0 (by omega)
    obtain ⟨q0, q1⟩ := hs.b.2.1 _ hnm
    have hix : ixD (szD ns) (.int p) = some (.int (ns.getD p.toNat 0)) := ixD_sz p0 (by omega)
    have hlen : ∀ qs : List Int, (∀ q ∈ qs, 0 ≤ q ∧ q < nl) → (extP ns c qs).length ≤ qs.length * 1000 := fun qs hq => by
      refine flatMap_len_le _ 1000 qs fun q hqm => ?_
      have := hs.b.2.1 _ (getD_mem (hq q hqm).1 (by have := (hq q hqm).2; omega))
      rw [List.length_map, rngI_len]
      omega
    have hl1 := hlen (ps.take i) fun q hq => hpl q (List.mem_of_mem_take hq)
    have hl2 := List.length_take_le' i ps
    have etk : extP ns c (ps.take (i + 1)) = extP ns c (ps.take i) ++ (rngI 0 (ns.getD p.toNat 0)).map fun v => c ++ [(p, v)] := by
      unfold extP
      rw [List.take_add_one, hp]
      simp
    rw [etk]
    generalize extP ns c (ps.take i) = acc at *
    generalize ns.getD p.toNat 0 = n at *
    have hr0 : rangeD 0 n = some ((rngI 0 n).map .int) := rangeD_ok (by omega) (by omega) (by omega) (by omega)
    simp [turnF, bindT]
    refine Pu.compM PyData.int (rngI 0 n) (fun v => cbD (c ++ [(p, v)])) (by simp [hix, hr0]) (fun v _ => ?_) ?_
    · simp [turnC, wipeA, bindT, LIM, add_cb c p v (by omega)]
    · have hrl : (rngI 0 n).length ≤ 1000 := by rw [rngI_len]; omega
      simp only [lstD, m_lift, m_bnd]
      rw [if_pos (by simp only [List.length_map]; unfold LIM; omega), m_bnd, at_nx, b_nil]
      refine Pu.nx ⟨some (.i (.int p)), x5, ?_⟩
      simp [Function.comp_def]
  · rintro fl ⟨s', rfl, x4, x5, rfl⟩
    simp [frzS, List.take_length]
    exact .ret hRR.symm
end Ev

set_option Elab.async false
set_option linter.all false
set_option maxRecDepth 100000
set_option autoImplicit false
/-! EvQ3: hidden_rules. -/
namespace Ev
open PySem
theorem subs10 : ∀ m : Nat, m < 6 → ∀ k : Nat, k < 6 → (subs (m : Int) k).length ≤ 10 := by decide +kernel
/-- all but one -/
def del (c : List (Int × Int)) (i : Nat) : List (Int × Int) := c.take i ++ c.drop (i + 1)
theorem add_del (c : List (Int × Int)) {i : Nat} (h : i < c.length) (hl : c.length ≤ 1000) : opD .add (.tuple (cutD (c.map prI) none (some (i : Int)))) (.tuple (cutD (c.map prI) (some ((i : Int) + 1)) none)) = some (cbD (del c i)) := by
  rw [cut_take _ _ (by rw [List.length_map]; omega), cut_drop]
  show (if _ then _ else _) = _
  rw [if_pos (by simp [LIM]; omega)]
  simp [cbD, del]
section
variable (ns : List Int) (pk : Nat → List (List (Int × Int))) (ex : List (Int × Int) → List (List (Int × Int)))
def hcond (k : Nat) (c : List (Int × Int)) : Bool := decide (c ∉ pk (k + 1)) && (List.range (k + 1)).all fun i => decide (del c i ∈ pk k)
def hidO (k : Nat) (one : List (Int × Int)) : List (List (Int × Int)) := (ex one).filter (hcond pk k)
def hidL (k : Nat) (ones : List (List (Int × Int))) : List (List (Int × Int)) := ones.flatMap (hidO pk ex k)
def hidT (n : Nat) : List (List (Int × Int)) := (List.range n).flatMap fun k => hidL pk ex k (pk k)
end
theorem ev_hidden {cf : CF} {ik ie ip x : Nat} (fu : Nat) (hK : CheckOk cf ik x) {ns : List Int} {cs : List (List (Int × Int))} {pk : Nat → List (List (Int × Int))} {ex : List (Int × Int) → List (List (Int × Int))} (hm : isModelD (mdD ns cs) = true) (hn : ns.length ≤ 5)
    (hP : ∀ (k : Nat) (ki : Int), k ≤ ns.length → ki = k → cf ip [mdD ns cs, .int ki] = ret (.dict (kvT (pk k)))) (hE : ∀ k, k < ns.length → ∀ c ∈ pk k, cf ie [szD ns, cbD c] = ret (.list ((ex c).map cbD)) ∧ (ex c).length ≤ 20 ∧ ∀ d ∈ ex c, d.length = k + 1)
    (hl : ∀ k, k ≤ ns.length → (pk k).length ≤ 10240) (hso : sortOk ((hidT pk ex ns.length).map cbD) = true) {RR : D} (hRR : RR = .tuple (sortD ((hidT pk ex ns.length).map cbD))) : runF cf fu (f_hidden_rules ik ie ip) [mdD ns cs] = ret RR := by
  rw [run_code cf fu (f := f_hidden_rules ik ie ip) rfl (s0 := [some (.i (mdD ns cs)), none, none, none, none, none, none, none, none, none]) rfl]
  have hK' : cf ik [mdD ns cs] = ret .none := by rw [hK _ (pl_md ns cs), if_pos hm]
  have hP0 := hP 0 0 (Nat.zero_le _) rfl
  have hln : biD .len (szD ns) = some (.int ns.length) := len_sz ns
  have hrg : rangeD 1 ((ns.length : Int) + 1) = some ((List.range ns.length).map fun (j : Nat) => .int (1 + (j : Int))) := by
    unfold rangeD
    rw [if_pos ⟨by omega, by omega, by omega, by omega, by unfold LIM; omega⟩]
    have e : ((ns.length : Int) + 1 - 1).toNat = ns.length := by omega
    rw [e]
  have hms := (ixD_md ns cs).1
  clear hK hm
  generalize hmd : mdD ns cs = md at *
  generalize hnl : (ns.length : Int) = nl at *
  simp -implicitDefEqProofs [f_hidden_rules, hK', hP0, mutS, LIM, hms, hln, hrg]
  clear hP0 hrg hln
  refine Pu.eq (Pu.bnd (Pu.forM (fun (j : Nat) => PyData.int (1 + (j : Int))) (List.range ns.length) rfl (fun k s => ∃ x3 x4 x5 x6 x7 x8 x9, s = [some (.i md), some (.l ((hidT pk ex k).map cbD)), some (.i (.dict (kvT (pk k)))), x3, x4, x5, x6, x7, x8, x9]) ⟨none, none, none, none, none, none, none, rfl⟩ ?_) ?_)
  · rintro k k' s hk ⟨x3, x4, x5, x6, x7, x8, x9, rfl⟩
    obtain ⟨hk1, hk2⟩ := List.getElem?_eq_some_iff.mp hk
    rw [List.length_range] at hk1
    rw [List.getElem_range] at hk2
    subst hk2
    have hPk := hP (k + 1) (1 + (k : Int)) (by omega) (by omega)
    have hEk := hE k hk1
    have hlk := hl k (by omega)
    have hT : hidT pk ex (k + 1) = hidT pk ex k ++ hidL pk ex k (pk k) := by
      unfold hidT
      rw [List.range_succ]
      simp
    have hTl : (hidT pk ex k).length ≤ k * 204800 := by
      unfold hidT
      have := flatMap_len_le (fun k => hidL pk ex k (pk k)) 204800 (List.range k) fun j hj => by
        have hj' := List.mem_range.mp hj
        refine Nat.le_trans (flatMap_len_le _ 20 (pk j) fun c hc => Nat.le_trans (List.length_filter_le ..) (hE j (by omega) c hc).2.1) ?_
        have := hl j (by omega)
        omega
      rw [List.length_range] at this
      exact this
    rw [hT]
    generalize hidT pk ex k = acc at *
    generalize hpk : pk k = ones at *
    generalize hpk1 : pk (k + 1) = larger at *
    have hcd : ∀ o, hcond pk k o = (decide (o ∉ larger) && (List.range (k + 1)).all fun i => decide (del o i ∈ ones)) := fun o => by
      unfold hcond
      rw [hpk, hpk1]
    have hr2 : rangeD 0 (1 + (k : Int)) = some ((List.range (k + 1)).map fun (j : Nat) => .int j) := by
      rw [range_ok (by omega) (by omega)]
      have e : (1 + (k : Int)).toNat = k + 1 := by omega
      rw [e]
    generalize hki : (1 + (k : Int)) = ki at *
    have hsq := seq_kvT ones
    simp -implicitDefEqProofs [turnF, bindT, hPk, hsq]
    refine Pu.bnd (Pu.forM cbD ones rfl (fun i s => ∃ y5 y6 y7 y8 y9, s = [some (.i md), some (.l ((acc ++ hidL pk ex k (ones.take i)).map cbD)), some (.i (.dict (kvT ones))), some (.i (.int ki)), some (.i (.dict (kvT larger))), y5, y6, y7, y8, y9]) ⟨x5, x6, x7, x8, x9, by simp -implicitDefEqProofs [hidL]⟩ ?_) ?_
    · rintro i one s hi ⟨y5, y6, y7, y8, y9, rfl⟩
      have h1m := List.mem_of_getElem? hi
      obtain ⟨hc1, hc2, hc3⟩ := hEk one h1m
      have hil : i < ones.length := (List.getElem?_eq_some_iff.mp hi).1
      have e1 : hidL pk ex k (ones.take (i + 1)) = hidL pk ex k (ones.take i) ++ (ex one).filter (hcond pk k) := by
        unfold hidL
        rw [List.take_add_one, hi]
        simp -implicitDefEqProofs [hidO]
      have hbl : (hidL pk ex k (ones.take i)).length ≤ ones.length * 20 := by
        refine Nat.le_trans (flatMap_len_le _ 20 (ones.take i) fun c hc => ?_) (Nat.mul_le_mul_right _ (List.length_take_le' ..))
        exact Nat.le_trans (List.length_filter_le ..) (hEk c (List.mem_of_mem_take hc)).2.1
      rw [e1, ← List.append_assoc]
      have hbcc : (acc ++ hidL pk ex k (ones.take i)).length ≤ 2000000 := by
        rw [List.length_append]
        omega
      generalize acc ++ hidL pk ex k (ones.take i) = bcc at *
      generalize ex one = os at *
      simp -implicitDefEqProofs [turnF, bindT, hms, hc1, seqD]
      refine Pu.bnd (Pu.forM cbD os rfl (fun j s => ∃ z6 z7 z8 z9, s = [some (.i md), some (.l ((bcc ++ (os.take j).filter (hcond pk k)).map cbD)), some (.i (.dict (kvT ones))), some (.i (.int ki)), some (.i (.dict (kvT larger))), some (.i (cbD one)), z6, z7, z8, z9]) ⟨y6, y7, y8, y9, by simp -implicitDefEqProofs⟩ ?_) ?_
      · rintro j o s hj ⟨z6, z7, z8, z9, rfl⟩
        have ho := hc3 o (List.mem_of_getElem? hj)
        have hcl : (bcc ++ (os.take j).filter (hcond pk k)).length ≤ 2000020 := by
          have h1 := List.length_filter_le (hcond pk k) (os.take j)
          have h2 := List.length_take_le' j os
          rw [List.length_append]
          omega
        have e2 : bcc ++ (os.take (j + 1)).filter (hcond pk k) = bcc ++ (os.take j).filter (hcond pk k) ++ if hcond pk k o = true then [o] else [] := by
          rw [List.take_add_one, hj, List.filter_append, ← List.append_assoc]
          congr 1
          simp -implicitDefEqProofs [List.filter_cons]
        rw [e2, hcd o]
        generalize bcc ++ (os.take j).filter (hcond pk k) = ccc at *
        have hlim : ccc.length < LIM := by unfold LIM; omega
        have hin := in_kvT o larger
        simp -implicitDefEqProofs [turnF, bindT]
        refine Pu.compM (fun (i : Nat) => PyData.int i) (List.range (k + 1)) (fun i => cbD (del o i)) (by simp -implicitDefEqProofs [hr2]) (fun i hi => ?_) ?_
        · have hi' := List.mem_range.mp hi
          have ha := add_del o (i := i) (by omega) (by omega)
          simp -implicitDefEqProofs [turnC, wipeA, bindT, slD, cbD] at ha ⊢
          rw [ha]
          rfl
        · simp -implicitDefEqProofs [opD, hin]
          by_cases hlg : o ∈ larger
          · rw [if_pos hlg, if_neg (c := ¬o ∈ larger ∧ ∀ x, x < k + 1 → del o x ∈ ones) (fun h => h.1 hlg)]
            simp -implicitDefEqProofs
            exact Pu.nx ⟨_, _, _, _, rfl⟩
          · rw [if_neg hlg]
            simp -implicitDefEqProofs only [m_assoc]
            refine Pu.compM (fun i => cbD (del o i)) (List.range (k + 1)) (fun i => .bool (decide (del o i ∈ ones))) (by simp -implicitDefEqProofs [seqD]) (fun i hi => ?_) ?_
            · have hin2 := in_kvT (del o i) ones
              simp -implicitDefEqProofs [turnC, wipeA, bindT, opD, hin2]
            · have hall := allD_map (fun i => decide (del o i ∈ ones)) (List.range (k + 1))
              simp -implicitDefEqProofs only [biD, hall, m_lift, m_bnd, truD]
              by_cases hal : ∀ x, x < k + 1 → del o x ∈ ones
              · have e3 : ((List.range (k + 1)).all fun i => decide (del o i ∈ ones)) = true := by
                  rw [List.all_eq_true]
                  intro x hx
                  exact decide_eq_true (hal x (List.mem_range.mp hx))
                rw [e3, if_pos rfl, if_pos hlim, if_pos ⟨hlg, hal⟩]
                simp -implicitDefEqProofs
                exact Pu.nx ⟨_, _, _, _, rfl⟩
              · have e3 : ((List.range (k + 1)).all fun i => decide (del o i ∈ ones)) = false := by
                  rw [Bool.eq_false_iff]
                  intro h
                  rw [List.all_eq_true] at h
                  exact hal fun x hx => of_decide_eq_true (h x (List.mem_range.mpr hx))
                rw [e3, if_neg (by decide), if_neg (c := ¬o ∈ larger ∧ ∀ x, x < k + 1 → del o x ∈ ones) (fun h => hal h.2)]
                simp -implicitDefEqProofs
                exact Pu.nx ⟨_, _, _, _, rfl⟩
      · rintro fl ⟨s', rfl, z6, z7, z8, z9, rfl⟩
        simp -implicitDefEqProofs [List.take_length]
        exact Pu.nx ⟨_, _, _, _, _, rfl⟩
    · rintro fl ⟨s', rfl, y5, y6, y7, y8, y9, rfl⟩
      simp -implicitDefEqProofs [List.take_length, bindT]
      exact Pu.nx ⟨_, _, _, _, _, _, _, rfl⟩
  · rintro fl ⟨s', rfl, x3, x4, x5, x6, x7, x8, x9, rfl⟩
    rw [List.length_range]
    simp -implicitDefEqProofs [biD, sortedD, hso, tupleD]
    exact .ret hRR.symm
end Ev

set_option Elab.async false
set_option linter.all false
set_option maxRecDepth 100000
set_option autoImplicit false
/-! EvQ4: what is possible, what is hidden, in plain words. -/
namespace Ev
open PySem
/-- some test has it -/
def openB (ts : List (List Int)) (c : List (Int × Int)) : Bool := ts.any fun t => hasB t c
structure Cbn (n : Nat) (c : List (Int × Int)) : Prop where
  asc : (c.map (·.1)).Pairwise (· < ·)
  rng : ∀ p ∈ c, 0 ≤ p.1 ∧ p.1 < (n : Int)
theorem proj_fst (t ps : List Int) : (proj t ps).map (·.1) = ps := by simp [proj, Function.comp_def]
theorem proj_has (t ps : List Int) : hasB t (proj t ps) = true := by
  unfold hasB proj
  rw [List.all_map, List.all_eq_true]
  intro x _
  simp
theorem proj_of {t : List Int} {c : List (Int × Int)} (h : hasB t c = true) : proj t (c.map (·.1)) = c := by
  unfold hasB at h
  rw [List.all_eq_true] at h
  unfold proj
  rw [List.map_map]
  conv => rhs; rw [← List.map_id c]
  refine List.map_congr_left fun p hp => ?_
  have := h p hp
  have e : t.getD p.1.toNat 0 = p.2 := by simpa using this
  show (p.1, t.getD p.1.toNat 0) = p
  rw [e]
theorem mem_posK {ts : List (List Int)} {n k : Nat} {c : List (Int × Int)} (hl : ∀ t ∈ ts, t.length = n) : c ∈ posK ts k ↔ c.length = k ∧ Cbn n c ∧ openB ts c = true := by
  unfold posK
  rw [insU_all_mem]
  simp only [List.not_mem_nil, false_or]
  unfold prjA
  rw [List.mem_flatMap]
  constructor
  · rintro ⟨t, ht, hc⟩
    obtain ⟨ps, hp, rfl⟩ := List.mem_map.mp hc
    obtain ⟨e1, e2, e3⟩ := (mem_subs _ _ ps).mp hp
    refine ⟨by simp [proj, e1], ⟨by rw [proj_fst]; exact e2, fun p hp => ?_⟩, ?_⟩
    · have : p.1 ∈ (proj t ps).map (·.1) := List.mem_map_of_mem hp
      rw [proj_fst] at this
      have := e3 _ this
      rw [hl t ht] at this
      exact this
    · exact List.any_eq_true.mpr ⟨t, ht, proj_has t ps⟩
  · rintro ⟨e1, e2, e3⟩
    obtain ⟨t, ht, h⟩ := List.any_eq_true.mp e3
    refine ⟨t, ht, List.mem_map.mpr ⟨c.map (·.1), (mem_subs _ _ _).mpr ⟨by simpa using e1, e2.asc, fun x hx => ?_⟩, proj_of h⟩⟩
    obtain ⟨p, hp, rfl⟩ := List.mem_map.mp hx
    rw [hl t ht]
    exact e2.rng p hp
theorem posK_nodup (ts : List (List Int)) (k : Nat) : (posK ts k).Nodup := insU_all_nodup _ List.nodup_nil
theorem Cbn.sub {n : Nat} {c d : List (Int × Int)} (h : Cbn n c) (s : d.Sublist c) : Cbn n d :=
  ⟨h.asc.sublist (s.map _), fun p hp => h.rng p (s.subset hp)⟩
theorem del_sub (c : List (Int × Int)) (i : Nat) : (del c i).Sublist c := by
  unfold del
  conv => rhs; rw [← List.take_append_drop i c]
  refine List.Sublist.append (List.Sublist.refl _) ?_
  rw [show c.drop (i + 1) = (c.drop i).drop 1 by rw [List.drop_drop]]
  exact List.drop_sublist ..
theorem del_len {c : List (Int × Int)} {i : Nat} (h : i < c.length) : (del c i).length + 1 = c.length := by
  unfold del
  rw [List.length_append, List.length_take, List.length_drop]
  omega
theorem del_last (c : List (Int × Int)) (p : Int × Int) : del (c ++ [p]) c.length = c := by simp [del]
/-- a hidden rule: not possible itself, each part possible -/
def isHid (ts : List (List Int)) (c : List (Int × Int)) : Prop := openB ts c = false ∧ ∀ i, i < c.length → openB ts (del c i) = true
theorem nxtC_le {n : Nat} {c : List (Int × Int)} (h : Cbn n c) : 0 ≤ nxtC c ∧ nxtC c ≤ n := by
  rcases List.eq_nil_or_concat c with e | ⟨l, y, e⟩
  · subst e; simp [nxtC]
  · subst e
    rw [List.concat_eq_append] at h ⊢
    rw [nxtC_snoc]
    have := h.rng y (by simp)
    omega
theorem Cbn.snoc {n : Nat} {c : List (Int × Int)} {p : Int × Int} : Cbn n (c ++ [p]) ↔ Cbn n c ∧ nxtC c ≤ p.1 ∧ 0 ≤ p.1 ∧ p.1 < (n : Int) := by
  constructor
  · intro h
    have hp := h.rng p (by simp)
    refine ⟨h.sub (List.sublist_append_left ..), ?_, hp⟩
    have ha := h.asc
    rw [List.map_append, List.pairwise_append] at ha
    rcases List.eq_nil_or_concat c with e | ⟨l, y, e⟩
    · subst e
      simpa [nxtC] using hp.1
    · subst e
      rw [List.concat_eq_append] at ha ⊢
      rw [nxtC_snoc]
      have := ha.2.2 y.1 (by simp) p.1 (by simp)
      omega
  · rintro ⟨h, h1, h2, h3⟩
    refine ⟨?_, fun q hq => ?_⟩
    · rw [List.map_append, List.pairwise_append]
      refine ⟨h.asc, by simp, fun a ha b hb => ?_⟩
      rw [List.map_singleton, List.mem_singleton] at hb
      rw [hb]
      rcases List.eq_nil_or_concat c with e | ⟨l, y, e⟩
      · subst e; simp at ha
      · subst e
        rw [List.concat_eq_append] at ha h1 h
        rw [nxtC_snoc] at h1
        rw [List.map_append, List.mem_append] at ha
        rcases ha with ha | ha
        · have h5 := h.asc
          rw [List.map_append, List.pairwise_append] at h5
          have := h5.2.2 a ha y.1 (by simp)
          omega
        · rw [List.map_singleton, List.mem_singleton] at ha
          omega
    · rcases List.mem_append.mp hq with hq | hq
      · exact h.rng q hq
      · rw [List.mem_singleton] at hq
        rw [hq]
        exact ⟨h2, h3⟩
theorem cb_len_of {n : Nat} {c : List (Int × Int)} (h : Cbn n c) : c.length ≤ n := by
  have key : ∀ (l : List Int) (lo : Int), l.Pairwise (· < ·) → (∀ x ∈ l, lo ≤ x ∧ x < (n : Int)) → (l.length : Int) ≤ max 0 ((n : Int) - lo) := by
    intro l
    induction l with
    | nil => intro lo _ _; simp; omega
    | cons a l ih =>
      intro lo hp hr
      rw [List.pairwise_cons] at hp
      have := ih (a + 1) hp.2 fun x hx => ⟨by have := hp.1 x hx; omega, (hr x (List.mem_cons_of_mem _ hx)).2⟩
      have ha := hr a List.mem_cons_self
      rw [List.length_cons]
      omega
  have := key (c.map (·.1)) 0 h.asc fun x hx => by
    obtain ⟨p, hp, rfl⟩ := List.mem_map.mp hx
    exact h.rng p hp
  rw [List.length_map] at this
  omega
/-- values in range too -/
def ValR (ns : List Int) (c : List (Int × Int)) : Prop := ∀ p ∈ c, 0 ≤ p.2 ∧ p.2 < ns.getD p.1.toNat 0
theorem open_val {ns : List Int} {cs : List (List (Int × Int))} {c : List (Int × Int)} (hc : Cbn ns.length c) (h : openB (vts ns cs) c = true) : ValR ns c := by
  obtain ⟨t, ht, hh⟩ := List.any_eq_true.mp h
  intro p hp
  have hr := (mem_vts.mp ht).1
  unfold hasB at hh
  rw [List.all_eq_true] at hh
  have e : t.getD p.1.toNat 0 = p.2 := by simpa using hh p hp
  have hp' := hc.rng p hp
  have := hr.2 p.1.toNat (by omega)
  rw [e] at this
  refine ⟨this.1, ?_⟩
  rw [List.getD_eq_getElem?_getD, List.getElem?_eq_getElem (by omega)]
  exact this.2
theorem mem_hid {ns : List Int} {cs : List (List (Int × Int))} {c : List (Int × Int)} : c ∈ hidT (posK (vts ns cs)) (exts ns) ns.length ↔ c ≠ [] ∧ Cbn ns.length c ∧ ValR ns c ∧ isHid (vts ns cs) c := by
  have hl : ∀ t ∈ vts ns cs, t.length = ns.length := fun t ht => (mem_vts.mp ht).1.1
  unfold hidT hidL hidO
  simp only [List.mem_flatMap, List.mem_range, List.mem_filter]
  constructor
  · rintro ⟨k, hk, one, h1, h2, h3⟩
    obtain ⟨o1, o2, o3⟩ := (mem_posK hl).mp h1
    obtain ⟨p, v, q1, q2, q3, q4, rfl⟩ := mem_exts.mp h2
    have hcb : Cbn ns.length (one ++ [(p, v)]) := Cbn.snoc.mpr ⟨o2, q1, by have := (nxtC_le o2).1; omega, q2⟩
    unfold hcond at h3
    rw [Bool.and_eq_true, decide_eq_true_eq, List.all_eq_true] at h3
    refine ⟨by simp, hcb, fun q hq => ?_, ?_, fun i hi => ?_⟩
    · rcases List.mem_append.mp hq with hq | hq
      · exact open_val o2 o3 q hq
      · rw [List.mem_singleton] at hq
        rw [hq]
        exact ⟨q3, q4⟩
    · cases e : openB (vts ns cs) (one ++ [(p, v)]) with
      | false => rfl
      | true => exact absurd ((mem_posK hl).mpr ⟨by simp [o1], hcb, e⟩) h3.1
    · have := of_decide_eq_true (h3.2 i (List.mem_range.mpr (by simpa [o1] using hi)))
      exact ((mem_posK hl).mp this).2.2
  · rintro ⟨h1, h2, h3, h4, h5⟩
    rcases List.eq_nil_or_concat c with e | ⟨l, y, e⟩
    · exact absurd e h1
    · subst e
      rw [List.concat_eq_append] at h2 h3 h4 h5 ⊢
      obtain ⟨g1, g2, g3, g4⟩ := Cbn.snoc.mp h2
      have hol : openB (vts ns cs) l = true := by
        have := h5 l.length (by simp)
        rw [del_last] at this
        exact this
      have hlen : l.length < ns.length := by
        have := cb_len_of h2
        rw [List.length_append, List.length_singleton] at this
        omega
      refine ⟨l.length, hlen, l, (mem_posK hl).mpr ⟨rfl, g1, hol⟩, mem_exts.mpr ⟨y.1, y.2, g2, g4, (h3 y (by simp)).1, (h3 y (by simp)).2, rfl⟩, ?_⟩
      unfold hcond
      rw [Bool.and_eq_true, decide_eq_true_eq, List.all_eq_true]
      refine ⟨fun h => ?_, fun i hi => ?_⟩
      · have := ((mem_posK hl).mp h).2.2
        rw [h4] at this
        cases this
      · have hi' : i < (l ++ [y]).length := by simpa using List.mem_range.mp hi
        refine decide_eq_true ((mem_posK hl).mpr ⟨?_, h2.sub (del_sub _ _), h5 i hi'⟩)
        have := del_len hi'
        simp at this
        omega
end Ev

set_option Elab.async false
set_option linter.all false
set_option maxRecDepth 100000
set_option autoImplicit false
/-! EvQ5: sorting, and hidden rules are told once. -/
namespace Ev
open PySem
theorem sort_eq_cb {l m : List (List (Int × Int))} (hp : l.Perm m) : sortD (l.map cbD) = sortD (m.map cbD) := by
  refine List.Perm.eq_of_pairwise (le := fun a c => leS a c = true) (fun a c h1 h2 q1 q2 => ?_) (sortD_sorted _) (sortD_sorted _) ?_
  · obtain ⟨x, _, rfl⟩ := List.mem_map.mp ((sortD_perm _).mem_iff.mp h1)
    obtain ⟨y, _, rfl⟩ := List.mem_map.mp ((sortD_perm _).mem_iff.mp h2)
    rw [leS_eq, Bool.not_eq_true'] at q1 q2
    exact eqv_nk _ _ (nk_cb x) (nk_cb y) (lt_eqv (alike_cb x y) q2 q1)
  · exact (sortD_perm _).trans ((hp.map cbD).trans (sortD_perm _).symm)
theorem sortOk_cb {cs : List (List (Int × Int))} (hne : ∀ c ∈ cs, c ≠ []) : sortOk (cs.map cbD) = true := by
  unfold sortOk
  simp only [Bool.and_eq_true, Bool.or_eq_true, List.all_eq_true]
  refine ⟨⟨fun x hx y hy => ?_, .inl fun x hx => ?_⟩, fun x hx => ?_⟩
  · obtain ⟨c, _, rfl⟩ := List.mem_map.mp hx
    obtain ⟨c', _, rfl⟩ := List.mem_map.mp hy
    exact alike_cb c c'
  · obtain ⟨c, hc, rfl⟩ := List.mem_map.mp hx
    have := hne c hc
    cases c with
    | nil => exact absurd rfl this
    | cons p c => rfl
  · obtain ⟨c, _, rfl⟩ := List.mem_map.mp hx
    exact pl_cb c
theorem snoc_inj {α : Type} {a b : List α} {x y : α} (h : a ++ [x] = b ++ [y]) : a = b ∧ x = y := by
  have := List.append_inj' h rfl
  exact ⟨this.1, by simpa using this.2⟩
theorem asc_nodup {l : List Int} (h : l.Pairwise (· < ·)) : l.Nodup := h.imp fun h => by omega
theorem exts_nodup (ns : List Int) (c : List (Int × Int)) : (exts ns c).Nodup := by
  unfold exts List.Nodup
  rw [List.pairwise_flatMap]
  refine ⟨fun p _ => ?_, ?_⟩
  · rw [List.pairwise_map]
    refine (rngI_asc _ _).imp fun {a b} h e => ?_
    have := (snoc_inj e).2
    injection this with _ e2
    omega
  · refine (rngI_asc _ _).imp fun {a b} h x hx y hy e => ?_
    obtain ⟨u, _, rfl⟩ := List.mem_map.mp hx
    obtain ⟨v, _, rfl⟩ := List.mem_map.mp hy
    have := (snoc_inj e).2
    injection this with e1 _
    omega
theorem hid_nodup (ns : List Int) (ts : List (List Int)) {n m : Nat} (hl : ∀ t ∈ ts, t.length = m) : (hidT (posK ts) (exts ns) n).Nodup := by
  have hlen : ∀ k, ∀ x ∈ hidL (posK ts) (exts ns) k (posK ts k), x.length = k + 1 ∧ ∃ one ∈ posK ts k, ∃ p, x = one ++ [p] := fun k x hx => by
    unfold hidL hidO at hx
    simp only [List.mem_flatMap, List.mem_filter] at hx
    obtain ⟨one, h1, h2, _⟩ := hx
    obtain ⟨p, v, _, _, _, _, rfl⟩ := mem_exts.mp h2
    have := ((mem_posK hl).mp h1).1
    exact ⟨by simp [this], one, h1, (p, v), rfl⟩
  unfold hidT List.Nodup
  rw [List.pairwise_flatMap]
  refine ⟨fun k _ => ?_, ?_⟩
  · unfold hidL
    rw [List.pairwise_flatMap]
    refine ⟨fun one _ => ((exts_nodup ns one).filter _), ?_⟩
    refine (posK_nodup ts k).imp fun {a b} hab x hx y hy e => ?_
    unfold hidO at hx hy
    obtain ⟨p, v, _, _, _, _, rfl⟩ := mem_exts.mp (List.mem_filter.mp hx).1
    obtain ⟨p', v', _, _, _, _, rfl⟩ := mem_exts.mp (List.mem_filter.mp hy).1
    exact hab (snoc_inj e).1
  · refine List.pairwise_lt_range.imp fun {a b} h x hx y hy e => ?_
    have h1 := (hlen a x hx).1
    have h2 := (hlen b y hy).1
    rw [e] at h1
    omega
/-! ### the law's own combinations -/
def lcS (rows : List (List (Int × Int))) (q : Int × Int) : List (List (Int × Int)) := rows ++ (rngI 0 q.2).flatMap fun v => rows.map fun r => r ++ [(q.1, v)]
def lcT (qs : List (Int × Int)) : List (List (Int × Int)) := qs.foldl lcS [[]]
end Ev

set_option Elab.async false
set_option linter.all false
set_option maxRecDepth 100000
set_option autoImplicit false
/-! EvQ6: _law_open, _law_parts. -/
namespace Ev
open PySem
theorem pl_ones {α : Type} (l : List α) : Pl (.list (l.map fun _ => PyData.int 1)) := pl_lst (n := 0) (by decide) fun x hx => by
  obtain ⟨_, _, rfl⟩ := List.mem_map.mp hx
  exact ⟨pl_int 1, Nat.le_refl _⟩
theorem pl_lnil : Pl (.list []) := pl_lst (n := 0) (by decide) fun x hx => by cases hx
theorem ne_lnil {α : Type} (l : List α) : opD .ne (.list (l.map fun _ => PyData.int 1)) (.list []) = some (.bool (!l.isEmpty)) := by
  rw [op_ne (pl_ones l) pl_lnil]
  cases l <;> simp [PyData.eqv, PyData.eqvAll]
theorem ev_law_open {cf : CF} {ih : Nat} (fu : Nat) (hH : HasOk cf ih) {ts : List (List Int)} {c : List (Int × Int)} (h : ∀ t ∈ ts, ∀ p ∈ c, 0 ≤ p.1 ∧ p.1 < (t.length : Int)) : runF cf fu (f_law_open ih) [.list (ts.map tsD), cbD c] = ret (.bool (openB ts c)) := by
  rw [run_code cf fu (f := f_law_open ih) rfl (s0 := [some (.i (.list (ts.map tsD))), some (.i (cbD c)), none]) rfl]
  simp -implicitDefEqProofs [f_law_open]
  refine bnd_compK tsD (fun _ => .int 1) ts (fun t => hasB t c) (by simp -implicitDefEqProofs [seqD]) (fun t ht => ?_) ?_
  · have := hH t c (h t ht)
    simp -implicitDefEqProofs [turnC, wipeA, bindT, this]
    cases hasB t c <;> simp -implicitDefEqProofs
  · have e := ne_lnil (ts.filter fun t => hasB t c)
    simp -implicitDefEqProofs [LIM, e]
    congr 2
    unfold openB
    induction ts with
    | nil => rfl
    | cons t ts ih =>
      rw [List.filter_cons, List.any_cons]
      cases hasB t c <;> simp
      have := ih (fun t ht => h t (List.mem_cons_of_mem _ ht)) (ne_lnil _)
      simpa using this
/-! ### _law_parts -/
def lpS (rows : List (List (Int × Int))) (p : Int × Int) : List (List (Int × Int)) := rows ++ rows.map fun r => r ++ [p]
def lpT (c : List (Int × Int)) : List (List (Int × Int)) := c.foldl lpS [[]]
theorem lpT_snoc (c : List (Int × Int)) (p : Int × Int) : lpT (c ++ [p]) = lpS (lpT c) p := by unfold lpT; rw [List.foldl_append]; rfl
theorem mem_lpT (c : List (Int × Int)) : ∀ d, d ∈ lpT c ↔ d.Sublist c := by
  refine snoc_ind (P := fun c => ∀ d, d ∈ lpT c ↔ d.Sublist c) (fun d => ?_) (fun l x ih d => ?_) c
  · simp [lpT]
  · rw [lpT_snoc]
    unfold lpS
    rw [List.mem_append, List.mem_map, ih]
    constructor
    · rintro (h | ⟨r, hr, rfl⟩)
      · exact h.trans (List.sublist_append_left ..)
      · exact List.Sublist.append ((ih r).mp hr) (List.Sublist.refl _)
    · intro h
      obtain ⟨d1, d2, rfl, h1, h2⟩ := List.sublist_append_iff.mp h
      have h3 : d2 = [] ∨ d2 = [x] := by
        cases h2 with
        | cons _ h => exact .inl (List.sublist_nil.mp h)
        | cons_cons _ h => exact .inr (by rw [List.sublist_nil.mp h])
      rcases h3 with e | e
      · subst e
        rw [List.append_nil]
        exact .inl h1
      · subst e
        exact .inr ⟨d1, (ih d1).mpr h1, rfl⟩
theorem lpT_len (c : List (Int × Int)) : (lpT c).length = 2 ^ c.length := by
  refine snoc_ind (P := fun c => (lpT c).length = 2 ^ c.length) rfl (fun l x ih => ?_) c
  rw [lpT_snoc]
  unfold lpS
  rw [List.length_append, List.length_map, List.length_append, List.length_singleton, Nat.pow_succ, ih]
  omega
end Ev

set_option Elab.async false
set_option linter.all false
set_option maxRecDepth 100000
set_option autoImplicit false
/-! EvQ7: _law_parts and _law_combinations evaluated. -/
namespace Ev
open PySem
theorem add_cb1 (c : List (Int × Int)) (p : Int × Int) (h : c.length ≤ 100) : opD .add (cbD c) (.tuple [prI p]) = some (cbD (c ++ [p])) := by
  have := add_cb c p.1 p.2 h
  exact this
theorem ev_law_parts {cf : CF} (fu : Nat) {c : List (Int × Int)} {RR : D} (hl : c.length ≤ 10) (hRR : RR = .list ((lpT c).map cbD)) : runF cf fu f_law_parts [cbD c] = ret RR := by
  rw [run_code cf fu (f := f_law_parts) rfl (s0 := [some (.i (cbD c)), none, none, none]) rfl]
  have hsq : seqD (cbD c) = some (c.map prI) := rfl
  generalize hcd : cbD c = cd at *
  simp -implicitDefEqProofs [f_law_parts, bindT, LIM, hsq]
  refine Pu.eq (Pu.bnd (Pu.forM prI c rfl (fun k s => ∃ x2 x3, s = [some (.i cd), some (.i (.list ((lpT (c.take k)).map cbD))), x2, x3]) ⟨none, none, rfl⟩ ?_) ?_)
  · rintro k p s hk ⟨x2, x3, rfl⟩
    have hkl : k < c.length := (List.getElem?_eq_some_iff.mp hk).1
    have etk : c.take (k + 1) = c.take k ++ [p] := by rw [List.take_add_one, hk]; rfl
    have hln := lpT_len (c.take k)
    have h2 : (lpT (c.take k)).length ≤ 1024 := by
      rw [hln]
      refine Nat.le_trans (Nat.pow_le_pow_right (by decide) (Nat.le_trans (List.length_take_le' ..) hl)) (by decide)
    have hrl : ∀ r ∈ lpT (c.take k), r.length ≤ 100 := fun r hr => by
      have h3 := ((mem_lpT _ r).mp hr).length_le
      have h4 := List.length_take_le' k c
      omega
    rw [etk, lpT_snoc]
    clear hln
    generalize lpT (c.take k) = R at *
    simp -implicitDefEqProofs [turnF, bindT]
    refine Pu.compM cbD R (fun r => cbD (r ++ [p])) (by simp -implicitDefEqProofs [seqD]) (fun r hr => ?_) ?_
    · have ha := add_cb1 r p (hrl r hr)
      simp -implicitDefEqProofs [turnC, wipeA, bindT, LIM, ha]
    · have ha := add_lst (R.map cbD) (R.map fun r => cbD (r ++ [p])) (by rw [List.length_map, List.length_map]; omega)
      simp -implicitDefEqProofs [ha, bindT]
      refine Pu.nx ⟨some (.i (prI p)), x3, ?_⟩
      simp [lpS, Function.comp_def]
  · rintro fl ⟨s', rfl, x2, x3, rfl⟩
    simp -implicitDefEqProofs [List.take_length]
    exact .ret hRR.symm
/-! ### _law_combinations -/
def enI : Nat → List Int → List (Int × Int)
  | _, [] => []
  | n, x :: xs => ((n : Int), x) :: enI (n + 1) xs
theorem enumL_ints : ∀ (n : Nat) (xs : List Int), enumL n (xs.map PyData.int) = (enI n xs).map prI
  | _, [] => rfl
  | n, x :: xs => by
    rw [List.map_cons, enumL, enumL_ints (n + 1) xs, enI, List.map_cons]
    rfl
theorem enI_mem : ∀ (n : Nat) (xs : List Int) (q : Int × Int), q ∈ enI n xs → (n : Int) ≤ q.1 ∧ q.1 < n + xs.length ∧ q.2 ∈ xs
  | _, [], q, h => by cases h
  | n, x :: xs, q, h => by
    rw [enI] at h
    rcases List.mem_cons.mp h with e | h
    · subst e
      exact ⟨Int.le_refl _, by simp; omega, List.mem_cons_self⟩
    · have := enI_mem (n + 1) xs q h
      refine ⟨by omega, ?_, List.mem_cons_of_mem _ this.2.2⟩
      rw [List.length_cons]
      omega
theorem lcT_snoc (qs : List (Int × Int)) (q : Int × Int) : lcT (qs ++ [q]) = lcS (lcT qs) q := by unfold lcT; rw [List.foldl_append]; rfl
theorem lcT_rowlen (qs : List (Int × Int)) : ∀ r ∈ lcT qs, r.length ≤ qs.length := by
  refine snoc_ind (P := fun qs => ∀ r ∈ lcT qs, r.length ≤ qs.length) (fun r hr => ?_) (fun l x ih r hr => ?_) qs
  · simp [lcT] at hr
    subst hr
    exact Nat.le_refl _
  · rw [lcT_snoc] at hr
    unfold lcS at hr
    rw [List.length_append, List.length_singleton]
    rcases List.mem_append.mp hr with h | h
    · exact Nat.le_succ_of_le (ih r h)
    · obtain ⟨v, _, h⟩ := List.mem_flatMap.mp h
      obtain ⟨r', h', rfl⟩ := List.mem_map.mp h
      rw [List.length_append, List.length_singleton]
      exact Nat.succ_le_succ (ih r' h')
theorem flat_take {α β : Type} (f : α → List β) (l : List α) (i : Nat) : ((l.take i).flatMap f).length ≤ (l.flatMap f).length := by
  conv => rhs; rw [← List.take_append_drop i l]
  rw [List.flatMap_append, List.length_append]
  omega
theorem ev_law_combinations {cf : CF} (fu : Nat) {ns : List Int} {RR : D} (hn : ns.length ≤ 50) (hv : ∀ n ∈ ns, 0 ≤ n ∧ n < 1000) (hb : ∀ k, (lcT ((enI 0 ns).take k)).length ≤ 100000) (hRR : RR = .list (((lcT (enI 0 ns)).drop 1).map cbD)) : runF cf fu f_law_combinations [szD ns] = ret RR := by
  rw [run_code cf fu (f := f_law_combinations) rfl (s0 := [some (.i (szD ns)), none, none, none, none, none, none]) rfl]
  have hen : enumD (szD ns) = some ((enI 0 ns).map prI) := congrArg some (enumL_ints 0 ns)
  have hq : ∀ q ∈ enI 0 ns, q.2 ∈ ns := fun q h => (enI_mem 0 ns q h).2.2
  generalize hsz : szD ns = sz at *
  generalize hqs : enI 0 ns = qs at *
  simp -implicitDefEqProofs [f_law_combinations, bindT, LIM, hen]
  have hrow : ∀ k, ∀ r ∈ lcT (qs.take k), r.length ≤ 100 := fun k r hr => by
    have h1 := lcT_rowlen _ r hr
    have h2 := List.length_take_le' k qs
    have h3 : qs.length = ns.length := by
      rw [← hqs]
      have key : ∀ (n : Nat) (l : List Int), (enI n l).length = l.length := fun n l => by
        induction l generalizing n with
        | nil => rfl
        | cons x l ih => rw [enI, List.length_cons, List.length_cons, ih]
      exact key 0 ns
    omega
  refine Pu.eq (Pu.bnd (Pu.forM prI qs rfl (fun k s => ∃ x2 x3 x4 x5 x6, s = [some (.i sz), some (.i (.list ((lcT (qs.take k)).map cbD))), x2, x3, x4, x5, x6]) ⟨none, none, none, none, none, rfl⟩ ?_) ?_)
  · rintro k q s hk ⟨x2, x3, x4, x5, x6, rfl⟩
    obtain ⟨p, n⟩ := q
    have etk : qs.take (k + 1) = qs.take k ++ [(p, n)] := by rw [List.take_add_one, hk]; rfl
    obtain ⟨n0, n1⟩ := hv n (hq (p, n) (List.mem_of_getElem? hk))
    have hb1 := hb (k + 1)
    have hr1 := hrow k
    rw [etk, lcT_snoc] at hb1
    rw [etk, lcT_snoc]
    generalize lcT (qs.take k) = R at *
    unfold lcS at hb1 ⊢
    rw [List.length_append] at hb1
    have hr0 : rangeD 0 n = some ((rngI 0 n).map .int) := rangeD_ok (by omega) (by omega) (by omega) (by omega)
    simp only at hb1 ⊢
    generalize hvs : rngI 0 n = vs at *
    simp -implicitDefEqProofs [turnF, bindT, bindTs, prI, mutS, biD, listD, hr0]
    refine Pu.bnd (Pu.forM PyData.int vs rfl (fun j s => ∃ y5 y6, s = [some (.i sz), some (.i (.list (R.map cbD))), some (.i (.int p)), some (.i (.int n)), some (.l ((R ++ (vs.take j).flatMap fun v => R.map fun r => r ++ [(p, v)]).map cbD)), y5, y6]) ⟨x5, x6, by simp⟩ ?_) ?_
    · rintro j v s hj ⟨y5, y6, rfl⟩
      have hft := flat_take (fun v => R.map fun r => r ++ [(p, v)]) vs (j + 1)
      have e1 : ((vs.take (j + 1)).flatMap fun v => R.map fun r => r ++ [(p, v)]) = ((vs.take j).flatMap fun v => R.map fun r => r ++ [(p, v)]) ++ R.map fun r => r ++ [(p, v)] := by
        rw [List.take_add_one, hj]
        simp
      rw [e1] at hft ⊢
      rw [List.length_append, List.length_map] at hft
      rw [← List.append_assoc]
      have hlen : (R ++ (vs.take j).flatMap fun v => R.map fun r => r ++ [(p, v)]).length + R.length ≤ 100000 := by
        rw [List.length_append]
        omega
      generalize (R ++ (vs.take j).flatMap fun v => R.map fun r => r ++ [(p, v)]) = acc at *
      simp -implicitDefEqProofs [turnF, bindT]
      refine Pu.compM cbD R (fun r => cbD (r ++ [(p, v)])) (by simp -implicitDefEqProofs [seqD]) (fun r hr => ?_) ?_
      · have ha := add_cb r p v (hr1 r hr)
        simp -implicitDefEqProofs [turnC, wipeA, bindT, LIM, ha]
      · simp -implicitDefEqProofs only [lstD, m_lift, m_bnd]
        rw [if_pos (by simp only [List.length_map]; unfold LIM; omega), m_bnd, at_nx, b_nil]
        refine Pu.nx ⟨some (.i (.int v)), y6, ?_⟩
        simp [Function.comp_def]
    · rintro fl ⟨s', rfl, y5, y6, rfl⟩
      simp -implicitDefEqProofs only [List.take_length, at_nx, b_frz, frzS, m_assoc]
      simp -implicitDefEqProofs [bindT]
      exact Pu.nx ⟨_, _, _, _, _, by simp; exact ⟨rfl, rfl, rfl, rfl, rfl⟩⟩
  · rintro fl ⟨s', rfl, x2, x3, x4, x5, x6, rfl⟩
    have hcut := cut1 ((lcT qs).map cbD)
    simp -implicitDefEqProofs [List.take_length, slD, hcut]
    rw [hRR]
    simp
    exact .ret rfl
end Ev

set_option Elab.async false
set_option linter.all false
set_option maxRecDepth 100000
set_option autoImplicit false
/-! EvQ8: the law's combinations are all combinations; its list of hidden rules is the program's. -/
namespace Ev
open PySem
theorem enI_snoc : ∀ (n : Nat) (l : List Int) (x : Int), enI n (l ++ [x]) = enI n l ++ [(((n + l.length : Nat) : Int), x)]
  | n, [], x => rfl
  | n, y :: l, x => by
    rw [List.cons_append, enI, enI_snoc (n + 1) l x, enI, List.cons_append, List.length_cons]
    congr 4
    omega
theorem getD_snoc_lt {l : List Int} {x : Int} {i : Nat} (h : i < l.length) : (l ++ [x]).getD i 0 = l.getD i 0 := by
  rw [List.getD_eq_getElem?_getD, List.getD_eq_getElem?_getD, List.getElem?_append_left h]
theorem getD_snoc_eq (l : List Int) (x : Int) : (l ++ [x]).getD l.length 0 = x := by
  rw [List.getD_eq_getElem?_getD]
  simp
theorem valR_up {l : List Int} {x : Int} {c : List (Int × Int)} (h : Cbn l.length c) : ValR (l ++ [x]) c ↔ ValR l c := by
  unfold ValR
  constructor
  · intro q p hp
    have := h.rng p hp
    rw [← getD_snoc_lt (x := x) (by omega)]
    exact q p hp
  · intro q p hp
    have := h.rng p hp
    rw [getD_snoc_lt (by omega)]
    exact q p hp
theorem mem_lcT (ns : List Int) : ∀ c, c ∈ lcT (enI 0 ns) ↔ Cbn ns.length c ∧ ValR ns c := by
  refine snoc_ind (P := fun ns => ∀ c, c ∈ lcT (enI 0 ns) ↔ Cbn ns.length c ∧ ValR ns c) (fun c => ?_) (fun l x ih c => ?_) ns
  · simp only [enI, lcT, List.foldl_nil, List.mem_singleton]
    constructor
    · rintro rfl
      exact ⟨⟨by simp, by simp⟩, by simp [ValR]⟩
    · rintro ⟨h, _⟩
      have := cb_len_of h
      exact List.length_eq_zero_iff.mp (by simpa using this)
  · rw [enI_snoc, lcT_snoc]
    unfold lcS
    rw [List.mem_append, ih]
    simp only [List.mem_flatMap, List.mem_map, mem_rngI, Nat.zero_add]
    have hlen : (l ++ [x]).length = l.length + 1 := by simp
    constructor
    · rintro (⟨h1, h2⟩ | ⟨v, ⟨v0, v1⟩, r, hr, rfl⟩)
      · refine ⟨⟨h1.asc, fun p hp => ?_⟩, (valR_up h1).mpr h2⟩
        have := h1.rng p hp
        rw [hlen]
        omega
      · obtain ⟨h1, h2⟩ := (ih r).mp hr
        have hn := nxtC_le h1
        refine ⟨?_, fun p hp => ?_⟩
        · rw [hlen]
          refine Cbn.snoc.mpr ⟨⟨h1.asc, fun p hp => ?_⟩, hn.2, by omega, by simp; omega⟩
          have := h1.rng p hp
          omega
        · rcases List.mem_append.mp hp with hp | hp
          · exact (valR_up h1).mpr h2 p hp
          · rw [List.mem_singleton] at hp
            subst hp
            refine ⟨v0, ?_⟩
            show v < (l ++ [x]).getD ((l.length : Int)).toNat 0
            rw [Int.toNat_natCast, getD_snoc_eq]
            exact v1
    · rintro ⟨h1, h2⟩
      rw [hlen] at h1
      rcases List.eq_nil_or_concat c with e | ⟨d, p, e⟩
      · subst e
        exact .inl ⟨⟨by simp, by simp⟩, by simp [ValR]⟩
      · subst e
        rw [List.concat_eq_append] at h1 h2 ⊢
        obtain ⟨g1, g2, g3, g4⟩ := Cbn.snoc.mp h1
        have hd : Cbn l.length d := ⟨g1.asc, fun q hq => ⟨(g1.rng q hq).1, by
          have ha := h1.asc
          rw [List.map_append, List.pairwise_append] at ha
          have := ha.2.2 q.1 (List.mem_map_of_mem hq) p.1 (by simp)
          omega⟩⟩
        have hvd : ValR l d := (valR_up hd).mp fun q hq => h2 q (List.mem_append_left _ hq)
        have hvp := h2 p (by simp)
        by_cases hp : p.1 = (l.length : Int)
        · refine .inr ⟨p.2, ⟨hvp.1, ?_⟩, d, (ih d).mpr ⟨hd, hvd⟩, ?_⟩
          · have := hvp.2
            rw [hp, Int.toNat_natCast, getD_snoc_eq] at this
            exact this
          · rw [← hp]
        · have hcl : Cbn l.length (d ++ [p]) := Cbn.snoc.mpr ⟨hd, g2, g3, by omega⟩
          exact .inl ⟨hcl, (valR_up hcl).mp h2⟩
theorem lcT_nodup (ns : List Int) : (lcT (enI 0 ns)).Nodup := by
  refine snoc_ind (P := fun ns => (lcT (enI 0 ns)).Nodup) ?_ (fun l x ih => ?_) ns
  · simp [enI, lcT]
  · rw [enI_snoc, lcT_snoc]
    unfold lcS
    refine List.nodup_append.mpr ⟨ih, ?_, ?_⟩
    · unfold List.Nodup
      rw [List.pairwise_flatMap]
      refine ⟨fun v _ => ?_, ?_⟩
      · rw [List.pairwise_map]
        exact ih.imp fun {a b} h e => h (snoc_inj e).1
      · refine (rngI_asc _ _).imp fun {a b} h u hu w hw e => ?_
        obtain ⟨r, _, rfl⟩ := List.mem_map.mp hu
        obtain ⟨r', _, rfl⟩ := List.mem_map.mp hw
        have := (snoc_inj e).2
        injection this with _ e2
        omega
    · intro a ha b hb e
      obtain ⟨v, _, h⟩ := List.mem_flatMap.mp hb
      obtain ⟨r, _, rfl⟩ := List.mem_map.mp h
      subst e
      have := ((mem_lcT l _).mp ha).1.rng (((0 + l.length : Nat) : Int), v) (by simp)
      simp at this
theorem lcT_head (qs : List (Int × Int)) : ∃ l, lcT qs = [] :: l := by
  refine snoc_ind (P := fun qs => ∃ l, lcT qs = [] :: l) ⟨[], rfl⟩ (fun l x ih => ?_) qs
  obtain ⟨m, e⟩ := ih
  rw [lcT_snoc, e]
  exact ⟨_, rfl⟩
/-- the law's list of combinations -/
theorem mem_lcombs (ns : List Int) (c : List (Int × Int)) : c ∈ (lcT (enI 0 ns)).drop 1 ↔ c ≠ [] ∧ Cbn ns.length c ∧ ValR ns c := by
  have hm := mem_lcT ns c
  have hd := lcT_nodup ns
  obtain ⟨l, e⟩ := lcT_head (enI 0 ns)
  rw [e] at hm hd ⊢
  rw [List.nodup_cons] at hd
  rw [List.drop_one, List.tail_cons]
  rw [List.mem_cons] at hm
  constructor
  · intro h
    refine ⟨fun ec => hd.1 (ec ▸ h), hm.mp (.inr h)⟩
  · rintro ⟨h1, h2⟩
    exact (hm.mpr h2).resolve_left h1
/-- what the law finds is what hidden_rules finds, up to order -/
theorem due_perm (ns : List Int) (cs : List (List (Int × Int))) (p : List (Int × Int) → Bool) (hp : ∀ c, p c = true ↔ isHid (vts ns cs) c) : (((lcT (enI 0 ns)).drop 1).filter p).Perm (hidT (posK (vts ns cs)) (exts ns) ns.length) := by
  refine (List.perm_ext_iff_of_nodup (((List.drop_sublist 1 _).nodup (lcT_nodup ns)).filter _) (hid_nodup ns _ (m := ns.length) fun t ht => (mem_vts.mp ht).1.1)).mpr fun c => ?_
  rw [List.mem_filter, mem_lcombs, hp, mem_hid]
  constructor
  · rintro ⟨⟨h1, h2, h3⟩, h4⟩
    exact ⟨h1, h2, h3, h4⟩
  · rintro ⟨h1, h2, h3, h4⟩
    exact ⟨⟨h1, h2, h3⟩, h4⟩
end Ev

set_option Elab.async false
set_option linter.all false
set_option maxRecDepth 100000
set_option autoImplicit false
/-! EvQ9: blocking evaluated. -/
namespace Ev
open PySem
def pick (c : List (Int × Int)) (is : List Int) : List (Int × Int) := is.map fun i => c.getD i.toNat (0, 0)
theorem ixC (c : List (Int × Int)) {i : Int} (h0 : 0 ≤ i) (h1 : i < c.length) : ixD (cbD c) (.int i) = some (prI (c.getD i.toNat (0, 0))) := by
  show (ixI (List.map prI c).length i).bind _ = _
  have : ixI (List.map prI c).length i = some i.toNat := by
    unfold ixI
    rw [if_pos h0, if_pos (by rw [List.length_map]; omega)]
  rw [this]
  have hl : i.toNat < c.length := by omega
  simp [List.getD_eq_getElem?_getD, List.getElem?_eq_getElem hl]
theorem pick_mem {c : List (Int × Int)} {is : List Int} (h : ∀ i ∈ is, 0 ≤ i ∧ i < (c.length : Int)) : ∀ p ∈ pick c is, p ∈ c := fun p hp => by
  obtain ⟨i, hi, rfl⟩ := List.mem_map.mp hp
  have := h i hi
  rw [List.getD_eq_getElem?_getD, List.getElem?_eq_getElem (by omega)]
  exact List.getElem_mem _
/-- the first part that no test has -/
def BlkSp (ts : List (List Int)) (c : List (Int × Int)) (cl : Int) (v : D) : Prop := ∃ (k : Nat) (l : List (List Int)) (is : List Int) (r : List (List Int)), k ≤ c.length ∧ subs cl k = l ++ is :: r ∧ (∀ j, j < k → ∀ x ∈ subs cl j, openB ts (pick c x) = true) ∧ (∀ x ∈ l, openB ts (pick c x) = true) ∧ openB ts (pick c is) = false ∧ v = cbD (pick c is)
def OpTo (ts : List (List Int)) (c : List (Int × Int)) (cl : Int) (k : Nat) : Prop := ∀ j, j < k → ∀ x ∈ subs cl j, openB ts (pick c x) = true
theorem ev_blocking {cf : CF} {ia ic ik ih is_ x y : Nat} (fu : Nat) (hK : CheckOk cf ik x) (hA : AllT cf ia) (hH : HasOk cf ih) (hS : SubsOk cf is_) {ns : List Int} {cs : List (List (Int × Int))} {c : List (Int × Int)} (hC : cf ic [mdD ns cs, cbD c] = ret .none) (hm : isModelD (mdD ns cs) = true) (hs : SmallB ns) (hc : InR ns cs) (hl : c.length ≤ 5) (hr : ∀ p ∈ c, 0 ≤ p.1 ∧ p.1 < (ns.length : Int)) :
    Pu (runF cf fu (f_blocking ia ic ik ih is_) [mdD ns cs, cbD c]) fun v => (v = .none ∧ OpTo (vts ns cs) c c.length (c.length + 1)) ∨ BlkSp (vts ns cs) c c.length v := by
  rw [run_code cf fu (f := f_blocking ia ic ik ih is_) rfl (s0 := [some (.i (mdD ns cs)), some (.i (cbD c)), none, none, none, none, none, none]) rfl]
  have hK' : cf ik [mdD ns cs] = ret .none := by rw [hK _ (pl_md ns cs), if_pos hm]
  have hA' := hA ns cs hs hc
  have htl : ∀ t ∈ vts ns cs, t.length = ns.length := fun t ht => (mem_vts.mp ht).1.1
  have hS' : ∀ k : Nat, k ≤ c.length → cf is_ [.int c.length, .int k] = ret (.list ((subs c.length k).map tsD)) := fun k hk => hS _ k (by omega) (by omega) (by omega)
  have hln : biD .len (cbD c) = some (.int c.length) := by
    show some (PyData.int ((c.map prI).length : Int)) = _
    rw [List.length_map]
  have hrg : rangeD 0 ((c.length : Int) + 1) = some ((List.range (c.length + 1)).map fun (j : Nat) => .int j) := by
    rw [range_ok (by omega) (by omega)]
    have e : ((c.length : Int) + 1).toNat = c.length + 1 := by omega
    rw [e]
  have hix : ∀ i : Int, 0 ≤ i → i < c.length → ixD (cbD c) (.int i) = some (prI (c.getD i.toNat (0, 0))) := fun i h0 h1 => ixC c h0 h1
  clear hK hA hS hm hs hc
  generalize hmd : mdD ns cs = md at *
  generalize hcd : cbD c = cd at *
  generalize hts : vts ns cs = ts at *
  have hms : ∀ k, ∀ is ∈ subs (c.length : Int) k, ∀ i ∈ is, 0 ≤ i ∧ i < (c.length : Int) := fun k is h => ((mem_subs _ k is).mp h).2.2
  have hany : ∀ d : List (Int × Int), (∀ p ∈ d, p ∈ c) → ∀ t ∈ ts, cf ih [tsD t, cbD d] = ret (.bool (hasB t d)) := fun d hd t ht => hH t d fun p hp => by
    rw [htl t ht]
    exact hr p (hd p hp)
  generalize hcl : (c.length : Int) = cl at *
  simp -implicitDefEqProofs [f_blocking, bindT, hK', hC, hA', hln, hrg]
  refine Pu.bnd (Pu.forMR (fun (j : Nat) => PyData.int j) (List.range (c.length + 1)) rfl (fun k s => OpTo ts c cl k ∧ ∃ x3 x4 x5 x6 x7, s = [some (.i md), some (.i cd), some (.i (.list (ts.map tsD))), x3, x4, x5, x6, x7]) (BlkSp ts c cl) ⟨fun j hj => absurd hj (Nat.not_lt_zero _), none, none, none, none, none, rfl⟩ ?_) ?_
  · rintro k k' s hk ⟨hop, x3, x4, x5, x6, x7, rfl⟩
    obtain ⟨hk1, hk2⟩ := List.getElem?_eq_some_iff.mp hk
    rw [List.length_range] at hk1
    rw [List.getElem_range] at hk2
    subst hk2
    have hSk := hS' k (by omega)
    have hmk := hms k
    generalize hkk : (k : Int) = ki at *
    simp -implicitDefEqProofs [turnF, bindT, hln, hSk, seqD]
    refine Pu.bnd (Pu.forMR tsD (subs cl k) rfl (fun i s => (∀ x ∈ (subs cl k).take i, openB ts (pick c x) = true) ∧ ∃ y4 y5 y6 y7, s = [some (.i md), some (.i cd), some (.i (.list (ts.map tsD))), some (.i (.int ki)), y4, y5, y6, y7]) (BlkSp ts c cl) ⟨fun x hx => by simp at hx, x4, x5, x6, x7, rfl⟩ ?_) ?_
    · rintro i is s hi ⟨hopi, y4, y5, y6, y7, rfl⟩
      have him := hmk is (List.mem_of_getElem? hi)
      have hpm : ∀ p ∈ pick c is, p ∈ c := pick_mem (fun i hi => by rw [hcl]; exact him i hi)
      have hT := hany (pick c is) hpm
      have hsp : BlkSp ts c cl (cbD (pick c is)) ∨ openB ts (pick c is) = true := by
        cases e : openB ts (pick c is) with
        | true => exact .inr rfl
        | false =>
          have hil : i < (subs cl k).length := (List.getElem?_eq_some_iff.mp hi).1
          refine .inl ⟨k, (subs cl k).take i, is, (subs cl k).drop (i + 1), by omega, ?_, hop, hopi, e, rfl⟩
          have := List.take_append_drop i (subs cl k)
          rw [List.drop_eq_getElem_cons hil, (List.getElem?_eq_some_iff.mp hi).2] at this
          exact this.symm
      simp -implicitDefEqProofs [turnF, bindT]
      refine Pu.compM PyData.int is (fun i => prI (c.getD i.toNat (0, 0))) (by simp -implicitDefEqProofs [seqD, tsD, szD]) (fun j hj => ?_) ?_
      · have := hix j (him j hj).1 (him j hj).2
        simp -implicitDefEqProofs [turnC, wipeA, bindT, this]
      · have etp : tupleD (.list (is.map fun i => prI (c.getD i.toNat (0, 0)))) = some (cbD (pick c is)) := by simp [tupleD, cbD, pick, Function.comp_def]
        have etp2 : biD .tuple (.list (is.map fun i => prI (c.getD i.toNat (0, 0)))) = some (cbD (pick c is)) := etp
        rw [etp2]
        generalize hpd : pick c is = pd at *
        simp -implicitDefEqProofs [bindT]
        refine Pu.compM tsD ts (fun t => .bool (hasB t pd)) (by simp -implicitDefEqProofs [seqD]) (fun t ht => ?_) ?_
        · have := hT t ht
          simp -implicitDefEqProofs [turnC, wipeA, bindT, this]
        · have han := anyD_map (fun t => hasB t pd) ts
          have han2 : biD .any (.list (ts.map fun t => .bool (hasB t pd))) = some (.bool (openB ts pd)) := han
          rw [han2]
          cases e : openB ts pd with
          | true =>
            simp -implicitDefEqProofs [truD]
            refine Pu.nxR ⟨fun x hx => ?_, _, _, _, _, rfl⟩
            rw [List.take_add_one, hi] at hx
            rcases List.mem_append.mp hx with hx | hx
            · exact hopi x hx
            · have ex : x = is := by simpa using hx
              rw [ex, hpd]
              exact e
          | false =>
            simp -implicitDefEqProofs [truD]
            refine Pu.rtR ?_
            rcases hsp with h | h
            · exact h
            · rw [e] at h
              cases h
    · rintro fl (⟨s', rfl, hopi, y4, y5, y6, y7, rfl⟩ | ⟨v, rfl, hv⟩)
      · rw [List.take_length] at hopi
        simp -implicitDefEqProofs
        refine Pu.nxR ⟨fun j hj x hx => ?_, _, _, _, _, _, rfl⟩
        by_cases e : j = k
        · rw [e] at hx
          exact hopi x hx
        · exact hop j (by omega) x hx
      · simp -implicitDefEqProofs
        exact Pu.rtR hv
  · rintro fl (⟨s', rfl, hop, x3, x4, x5, x6, x7, rfl⟩ | ⟨v, rfl, hv⟩)
    · rw [List.length_range] at hop
      simp -implicitDefEqProofs
      exact .ret (.inl ⟨rfl, hop⟩)
    · simp -implicitDefEqProofs
      exact .ret (.inr hv)
end Ev

set_option Elab.async false
set_option linter.all false
set_option maxRecDepth 100000
set_option autoImplicit false
/-! EvQ10: the least. -/
namespace Ev
open PySem
theorem leS_refl (x : D) : leS x x = true := (leS_total.total x x).elim id id
theorem minT_le : ∀ (xs : List D) (x : D), ∀ y ∈ x :: xs, leS (minT x xs) y = true
  | [], x, y, hy => by
    rw [List.mem_singleton] at hy
    rw [hy]
    exact leS_refl x
  | z :: xs, x, y, hy => by
    have ih := minT_le xs (if PySem.W.dataLt z x then z else x)
    show leS (minT (if PySem.W.dataLt z x then z else x) xs) y = true
    have h0 := ih _ List.mem_cons_self
    rcases List.mem_cons.mp hy with e | hy
    · subst e
      refine leS_total.trans _ _ _ h0 ?_
      split
      · rename_i h
        rcases leS_total.total z y with q | q
        · exact q
        · rw [leS_eq, h] at q
          cases q
      · exact leS_refl _
    · rcases List.mem_cons.mp hy with e | hy
      · subst e
        refine leS_total.trans _ _ _ h0 ?_
        split
        · exact leS_refl _
        · rename_i h
          rw [leS_eq]
          simpa using h
      · exact ih y (List.mem_cons_of_mem _ hy)
/-- what is in the list and not above any item is the least -/
theorem minT_eq {x m : D} {xs : List D} (hm : m ∈ x :: xs) (hn : ∀ y ∈ x :: xs, nkOk y = true) (ha : ∀ y ∈ x :: xs, ∀ z ∈ x :: xs, PySem.W.alike y z = true) (hl : ∀ y ∈ x :: xs, PySem.W.dataLt y m = false) : minT x xs = m := by
  have h1 := minT_mem x xs
  have h2 := minT_le xs x m hm
  rw [leS_eq, Bool.not_eq_true'] at h2
  exact eqv_nk _ _ (hn _ h1) (hn _ hm) (lt_eqv (ha _ h1 _ hm) (hl _ h1) h2)
/-! ### the order of combinations -/
theorem lt_self (d : D) (h : PySem.W.alike d d = true) : PySem.W.dataLt d d = false := by
  cases e : PySem.W.dataLt d d with
  | false => rfl
  | true =>
    have := leS_refl d
    rw [leS_eq, e] at this
    cases this
theorem lt_tup_yes {x y : D} {xs ys : List D} (h : PySem.W.alike x y = true) (e : PyData.eqv x y = true) : PySem.W.dataLt (.tuple (x :: xs)) (.tuple (y :: ys)) = PySem.W.dataLt (.tuple xs) (.tuple ys) := by
  rw [PySem.W.dataLt_tuple, PySem.W.dataLt_tuple, PySem.W.dataLt_all_yes h e]
theorem lt_tup_no {x y : D} {xs ys : List D} (h : PySem.W.alike x y = true) (e : PyData.eqv x y = false) : PySem.W.dataLt (.tuple (x :: xs)) (.tuple (y :: ys)) = PySem.W.dataLt x y := by
  rw [PySem.W.dataLt_tuple, PySem.W.dataLt_all_no h e]
theorem alike_prI (p q : Int × Int) : PySem.W.alike (prI p) (prI q) = true := by
  have := alike_prs [p] [q]
  simpa [PySem.W.alikeAll] using this
theorem lt_cb_same (p : Int × Int) (d e : List (Int × Int)) : PySem.W.dataLt (cbD (p :: d)) (cbD (p :: e)) = PySem.W.dataLt (cbD d) (cbD e) :=
  lt_tup_yes (alike_prI p p) (by rw [eqv_prI]; simp)
theorem lt_cb_less {p q : Int × Int} (h : p.1 < q.1) (d e : List (Int × Int)) : PySem.W.dataLt (cbD (p :: d)) (cbD (q :: e)) = true := by
  have hne : p ≠ q := fun e => by rw [e] at h; omega
  show PySem.W.dataLt (.tuple (prI p :: d.map prI)) (.tuple (prI q :: e.map prI)) = true
  rw [lt_tup_no (alike_prI p q) (by rw [eqv_prI]; simpa using hne)]
  show PySem.W.dataLt (.tuple [.int p.1, .int p.2]) (.tuple [.int q.1, .int q.2]) = true
  rw [lt_tup_no (rfl) (by simp [PyData.eqv]; omega), PySem.W.dataLt_int]
  exact decide_eq_true h
theorem lt_len {a b : Int} (h : a ≠ b) (d e : D) : PySem.W.dataLt (.tuple [.int a, d]) (.tuple [.int b, e]) = decide (a < b) := by
  rw [lt_tup_no rfl (by simp [PyData.eqv, h]), PySem.W.dataLt_int]
theorem lt_len_same (a : Int) (d e : List (Int × Int)) : PySem.W.dataLt (.tuple [.int a, cbD d]) (.tuple [.int a, cbD e]) = PySem.W.dataLt (cbD d) (cbD e) := by
  rw [lt_tup_yes rfl (by simp [PyData.eqv])]
  by_cases h : d = e
  · subst h
    rw [lt_tup_yes (alike_cb d d) (by rw [eqv_cb]; simp), lt_self _ (alike_cb d d)]
    exact lt_self _ rfl
  · rw [lt_tup_no (alike_cb d e) (by rw [eqv_cb]; simpa using h)]
end Ev

set_option Elab.async false
set_option linter.all false
set_option maxRecDepth 100000
set_option autoImplicit false
/-! EvQ11: parts by their indices. -/
namespace Ev
open PySem
theorem getD_lt {c : List (Int × Int)} (hc : (c.map (·.1)).Pairwise (· < ·)) {a b : Nat} (hab : a < b) (hb : b < c.length) : (c.getD a (0, 0)).1 < (c.getD b (0, 0)).1 := by
  have ha : a < c.length := by omega
  rw [List.getD_eq_getElem?_getD, List.getD_eq_getElem?_getD, List.getElem?_eq_getElem ha, List.getElem?_eq_getElem hb]
  have := List.pairwise_iff_getElem.mp hc a b (by simpa using ha) (by simpa using hb) hab
  simpa using this
theorem pick_lt {c : List (Int × Int)} (hc : (c.map (·.1)).Pairwise (· < ·)) : ∀ (x y : List Int), x.length = y.length → (∀ i ∈ x, 0 ≤ i ∧ i < (c.length : Int)) → (∀ i ∈ y, 0 ≤ i ∧ i < (c.length : Int)) → x < y → PySem.W.dataLt (cbD (pick c x)) (cbD (pick c y)) = true
  | [], [], _, _, _, h => absurd h (lt_irrefl_l [])
  | [], _ :: _, hl, _, _, _ => by simp at hl
  | _ :: _, [], hl, _, _, _ => by simp at hl
  | a :: x, b :: y, hl, hx, hy, h => by
    have ha := hx a List.mem_cons_self
    have hb := hy b List.mem_cons_self
    have hl' : x.length = y.length := by simpa using hl
    rcases List.cons_lt_cons_iff.mp h with h | ⟨h1, h2⟩
    · exact lt_cb_less (p := c.getD a.toNat (0, 0)) (q := c.getD b.toNat (0, 0)) (getD_lt hc (by omega) (by omega)) _ _
    · subst h1
      exact (lt_cb_same (c.getD a.toNat (0, 0)) (pick c x) (pick c y)).trans (pick_lt hc x y hl' (fun i hi => hx i (List.mem_cons_of_mem _ hi)) (fun i hi => hy i (List.mem_cons_of_mem _ hi)) h2)
theorem pick_up (a : Int × Int) (c : List (Int × Int)) {x : List Int} (h : ∀ i ∈ x, 0 ≤ i) : pick (a :: c) (x.map (· + 1)) = pick c x := by
  unfold pick
  rw [List.map_map]
  refine List.map_congr_left fun i hi => ?_
  have := h i hi
  show (a :: c).getD (i + 1).toNat (0, 0) = c.getD i.toNat (0, 0)
  rw [show (i + 1).toNat = i.toNat + 1 by omega]
  rfl
theorem sub_pick {c d : List (Int × Int)} (h : d.Sublist c) : ∃ x : List Int, x.length = d.length ∧ x.Pairwise (· < ·) ∧ (∀ i ∈ x, 0 ≤ i ∧ i < (c.length : Int)) ∧ d = pick c x := by
  induction h with
  | slnil => exact ⟨[], rfl, .nil, by simp, rfl⟩
  | cons a h ih =>
    obtain ⟨x, h1, h2, h3, h4⟩ := ih
    refine ⟨x.map (· + 1), by simpa using h1, ?_, fun i hi => ?_, ?_⟩
    · rw [List.pairwise_map]
      exact h2.imp fun h => by omega
    · obtain ⟨j, hj, rfl⟩ := List.mem_map.mp hi
      have := h3 j hj
      rw [List.length_cons]
      omega
    · rw [pick_up a _ fun i hi => (h3 i hi).1]
      exact h4
  | cons_cons a h ih =>
    obtain ⟨x, h1, h2, h3, h4⟩ := ih
    refine ⟨0 :: x.map (· + 1), by simpa using h1, ?_, fun i hi => ?_, ?_⟩
    · rw [List.pairwise_cons, List.pairwise_map]
      refine ⟨fun i hi => ?_, h2.imp fun h => by omega⟩
      obtain ⟨j, hj, rfl⟩ := List.mem_map.mp hi
      have := (h3 j hj).1
      omega
    · rw [List.length_cons]
      rcases List.mem_cons.mp hi with e | hi
      · omega
      · obtain ⟨j, hj, rfl⟩ := List.mem_map.mp hi
        have := h3 j hj
        omega
    · show _ = a :: pick (a :: _) (x.map (· + 1))
      rw [pick_up a _ fun i hi => (h3 i hi).1, ← h4]
theorem pick_sub : ∀ (c : List (Int × Int)) (x : List Int), x.Pairwise (· < ·) → (∀ i ∈ x, 0 ≤ i ∧ i < (c.length : Int)) → (pick c x).Sublist c
  | c, [], _, _ => by simp [pick]
  | [], a :: x, _, h => by
    have := h a List.mem_cons_self
    simp at this
    omega
  | q :: c, a :: x, hp, h => by
    rw [List.pairwise_cons] at hp
    have ha := h a List.mem_cons_self
    have down : ∀ y : List Int, (∀ i ∈ y, 1 ≤ i) → y = (y.map (· - 1)).map (· + 1) := fun y _ => by
      rw [List.map_map]
      conv => lhs; rw [← List.map_id y]
      exact List.map_congr_left fun i _ => by simp
    by_cases e : a = 0
    · have h1 : ∀ i ∈ x, 1 ≤ i := fun i hi => by have := hp.1 i hi; omega
      have := pick_sub c (x.map (· - 1)) (by rw [List.pairwise_map]; exact hp.2.imp fun h => by omega) fun i hi => by
        obtain ⟨j, hj, rfl⟩ := List.mem_map.mp hi
        have := h j (List.mem_cons_of_mem _ hj)
        have := h1 j hj
        rw [List.length_cons] at *
        omega
      have e2 : pick (q :: c) (a :: x) = q :: pick c (x.map (· - 1)) := by
        rw [← pick_up q c (x := x.map (· - 1)) fun i hi => by
          obtain ⟨j, hj, rfl⟩ := List.mem_map.mp hi
          have := h1 j hj
          omega, ← down x h1]
        subst e
        rfl
      rw [e2]
      exact this.cons_cons q
    · have h1 : ∀ i ∈ a :: x, 1 ≤ i := fun i hi => by
        rcases List.mem_cons.mp hi with e' | hi
        · omega
        · have := hp.1 i hi
          omega
      have := pick_sub c ((a :: x).map (· - 1)) (by rw [List.pairwise_map]; exact (List.pairwise_cons.mpr hp).imp fun h => by omega) fun i hi => by
        obtain ⟨j, hj, rfl⟩ := List.mem_map.mp hi
        have := h j hj
        have := h1 j hj
        rw [List.length_cons] at *
        omega
      have e2 : pick (q :: c) (a :: x) = pick c ((a :: x).map (· - 1)) := by
        rw [← pick_up q c (x := (a :: x).map (· - 1)) fun i hi => by
          obtain ⟨j, hj, rfl⟩ := List.mem_map.mp hi
          have := h1 j hj
          omega, ← down (a :: x) h1]
      rw [e2]
      exact this.cons q
termination_by c x => c.length
end Ev

set_option Elab.async false
set_option linter.all false
set_option maxRecDepth 100000
set_option autoImplicit false
/-! EvQ12: blocking finds the least part. -/
namespace Ev
open PySem
def lenP (d : List (Int × Int)) : D := .tuple [.int d.length, cbD d]
theorem lt_asym {x y : D} (h : PySem.W.dataLt x y = true) : PySem.W.dataLt y x = false := by
  cases e : PySem.W.dataLt y x with
  | false => rfl
  | true =>
    rcases leS_total.total x y with q | q
    · rw [leS_eq, e] at q; cases q
    · rw [leS_eq, h] at q; cases q
/-- the parts that no test has -/
def badP (ts : List (List Int)) (c : List (Int × Int)) : List (List (Int × Int)) := (lpT c).filter fun d => !openB ts d
theorem blk_min {ts : List (List Int)} {c : List (Int × Int)} {v : D} (hc : (c.map (·.1)).Pairwise (· < ·)) (hb : BlkSp ts c c.length v) : ∃ m, v = cbD m ∧ m ∈ badP ts c ∧ ∀ d ∈ badP ts c, PySem.W.dataLt (lenP d) (lenP m) = false := by
  obtain ⟨k, l, is, r, hk, es, h1, h2, h3, rfl⟩ := hb
  have his : is ∈ subs (c.length : Int) k := by rw [es]; simp
  obtain ⟨i1, i2, i3⟩ := (mem_subs _ _ is).mp his
  refine ⟨pick c is, rfl, ?_, fun d hd => ?_⟩
  · unfold badP
    rw [List.mem_filter, mem_lpT]
    exact ⟨pick_sub c is i2 i3, by rw [h3]; rfl⟩
  · unfold badP at hd
    rw [List.mem_filter, mem_lpT] at hd
    obtain ⟨hs, ho⟩ := hd
    have ho : openB ts d = false := by simpa using ho
    obtain ⟨x, x1, x2, x3, rfl⟩ := sub_pick hs
    have hlen : (pick c x).length = x.length := by simp [pick]
    have hlen2 : (pick c is).length = k := by simp [pick, i1]
    have hx : x ∈ subs (c.length : Int) x.length := (mem_subs _ _ x).mpr ⟨rfl, x2, x3⟩
    unfold lenP
    rw [hlen, hlen2]
    by_cases e : x.length = k
    · rw [e, lt_len_same]
      rw [e, es] at hx
      have hp := subs_asc (c.length : Int) k
      rw [es] at hp
      rcases List.mem_append.mp hx with hx | hx
      · rw [h2 x hx] at ho
        cases ho
      · rcases List.mem_cons.mp hx with hx | hx
        · rw [hx]
          exact lt_self _ (alike_cb _ _)
        · have hlt : is < x := (List.pairwise_cons.mp (List.pairwise_append.mp hp).2.1).1 x hx
          exact lt_asym (pick_lt hc is x (by omega) i3 x3 hlt)
    · have hgt : k < x.length := by
        rcases Nat.lt_or_gt_of_ne e with q | q
        · rw [h1 x.length q x hx] at ho
          cases ho
        · exact q
      rw [lt_len (by omega)]
      exact decide_eq_false (by omega)
theorem nk_lenP (d : List (Int × Int)) : nkOk (lenP d) = true := by
  have := nk_cb d
  simp [lenP, nkOk, nkAll, this]
theorem alike_lenP (d e : List (Int × Int)) : PySem.W.alike (lenP d) (lenP e) = true := by
  have := alike_cb d e
  simp [lenP, PySem.W.alike, PySem.W.alikeAll, this]
/-- min of the law's list -/
theorem min_bad {ts : List (List Int)} {c : List (Int × Int)} {v : D} (hc : (c.map (·.1)).Pairwise (· < ·)) (hb : BlkSp ts c c.length v) : ∃ m, v = cbD m ∧ badP ts c ≠ [] ∧ ∀ x xs, (badP ts c).map lenP = x :: xs → minT x xs = lenP m := by
  obtain ⟨m, e1, e2, e3⟩ := blk_min hc hb
  refine ⟨m, e1, fun e => ?_, fun x xs e => ?_⟩
  · rw [e] at e2
    cases e2
  · have hmem : ∀ y ∈ x :: xs, ∃ d ∈ badP ts c, y = lenP d := fun y hy => by
      rw [← e] at hy
      obtain ⟨d, hd, rfl⟩ := List.mem_map.mp hy
      exact ⟨d, hd, rfl⟩
    refine minT_eq (by rw [← e]; exact List.mem_map_of_mem e2) (fun y hy => ?_) (fun y hy z hz => ?_) fun y hy => ?_
    · obtain ⟨d, _, rfl⟩ := hmem y hy
      exact nk_lenP d
    · obtain ⟨d, _, rfl⟩ := hmem y hy
      obtain ⟨d', _, rfl⟩ := hmem z hz
      exact alike_lenP d d'
    · obtain ⟨d, hd, rfl⟩ := hmem y hy
      exact e3 d hd
theorem bad_nil {ts : List (List Int)} {c : List (Int × Int)} (h : OpTo ts c c.length (c.length + 1)) : badP ts c = [] := by
  unfold badP
  rw [List.filter_eq_nil_iff]
  intro d hd
  obtain ⟨x, x1, x2, x3, rfl⟩ := sub_pick ((mem_lpT c d).mp hd)
  have hle : x.length ≤ c.length := by
    have := ((mem_lpT c _).mp hd).length_le
    simpa [pick] using this
  have := h x.length (by omega) x ((mem_subs _ _ x).mpr ⟨rfl, x2, x3⟩)
  rw [this]
  decide
end Ev

set_option Elab.async false
set_option linter.all false
set_option maxRecDepth 100000
set_option autoImplicit false
/-! EvQ13: hidden_rules, all together. -/
namespace Ev
open PySem
theorem sml_of {ns : List Int} (hl : ns.length ≤ 5) (h : ∀ n ∈ ns, 0 ≤ n ∧ n ≤ 4) : Sml ns := by
  refine ⟨(small_of hl h).b, hl, ?_⟩
  have h1 := rowsA_le (ns := ns) fun n hn => (h n hn).2
  have h3 : 4 ^ ns.length ≤ 4 ^ 5 := Nat.pow_le_pow_right (by decide) hl
  have h4 : (4 : Nat) ^ 5 = 1024 := by decide
  rw [← (rows_perm ns).length_eq]
  omega
theorem posK_len {ts : List (List Int)} {k n : Nat} (hl : ts.length ≤ 1024) (ht : ∀ t ∈ ts, t.length = n) (hn : n ≤ 5) (hk : k ≤ 5) : (posK ts k).length ≤ 10240 := by
  have h1 := insU_all_len (prjA ts k) []
  have h2 : (prjA ts k).length ≤ ts.length * 10 := flatMap_len_le _ 10 ts fun t h => by
    unfold prjs
    rw [List.length_map, ht t h]
    exact subs10 n (by omega) k (by omega)
  rw [List.length_nil] at h1
  unfold posK
  omega
theorem exts_len {ns : List Int} {c : List (Int × Int)} (hn : ns.length ≤ 5) (h : ∀ n ∈ ns, 0 ≤ n ∧ n ≤ 4) (h0 : 0 ≤ nxtC c) : (exts ns c).length ≤ 20 := by
  unfold exts
  refine Nat.le_trans (flatMap_len_le _ 4 _ fun p hp => ?_) ?_
  · obtain ⟨p0, p1⟩ := mem_rngI.mp hp
    have := h _ (getD_mem (ns := ns) (p := p) (by omega) p1)
    rw [List.length_map, rngI_len]
    omega
  · rw [rngI_len]
    omega
theorem hidden_ok {cf : CF} {ik ie ip x : Nat} (fu : Nat) (hK : CheckOk cf ik x) (hP : PosOk cf ip) (hE : ExtOk cf ie) {ns : List Int} {cs : List (List (Int × Int))} (hm : isModelD (mdD ns cs) = true) (hn : ns.length ≤ 5) (h4 : ∀ n ∈ ns, 0 ≤ n ∧ n ≤ 4) (hc : InR ns cs) :
    runF cf fu (f_hidden_rules ik ie ip) [mdD ns cs] = ret (.tuple (sortD ((hidT (posK (vts ns cs)) (exts ns) ns.length).map cbD))) := by
  have hs := sml_of hn h4
  obtain ⟨v1, v2⟩ := vts_rows (cs := cs) hs
  refine ev_hidden fu hK hm hn (fun k ki hk e => ?_) (fun k hk c hck => ?_) (fun k hk => posK_len v1 v2 hn (by omega)) (sortOk_cb fun c hcm => (mem_hid.mp hcm).1) rfl
  · rw [e]
    exact hP ns cs k hs (by omega) hc
  · obtain ⟨o1, o2, _⟩ := (mem_posK v2).mp hck
    have hx := nxtC_le o2
    have hcl := cb_len_of o2
    refine ⟨hE ns c hs (by omega) hx.1 (by omega), exts_len hn h4 hx.1, fun d hd => ?_⟩
    obtain ⟨p, v, _, _, _, _, rfl⟩ := mem_exts.mp hd
    simp [o1]
end Ev

set_option Elab.async false
set_option linter.all false
set_option maxRecDepth 100000
set_option autoImplicit false
/-! EvK2: the law k02. -/
namespace Ev
open PySem
/-- what the law's defs answer -/
structure K2Ok (cf : CF) (ib ic id_ ih iis im it ico iic iv ivt : Nat) : Prop where
  beg : ∀ tl, cf ib [] (.non :: tl) = .ok (obD 0) (.town 0 [] :: tl)
  cmb : CombinOk cf ic
  drw : DrawOk cf id_
  has : HasOk cf ih
  is_ : ∀ a b : Bool, cf iis [.bool a, .bool b] = ret (.bool (a == b))
  mod : ModelDraw cf im
  tst : LTests cf it
  con : ContOk cf ico 0 1 2
  icm : ∀ d c, Pl d → isModelD d = false → cf iic [d, c] = thr 0
  ivl : ∀ d c, Pl d → isModelD d = false → cf iv [d, c] = thr 0
  vts : ValidT cf ivt 0
theorem res0 : resM resL (thr 0) = ret (.tuple [.str "model"]) := res_thr rfl
theorem res1 : resM resL (thr 1) = ret (.tuple [.str "test"]) := res_thr rfl
theorem res2 : resM resL (thr 2) = ret (.tuple [.str "combination"]) := res_thr rfl
theorem isr {cf : CF} {i : Nat} (h : ∀ a b : Bool, cf i [.bool a, .bool b] = ret (.bool (a == b))) (b : Bool) : cf i [.bool b, .bool b] = ret (.bool true) := by rw [h]; cases b <;> rfl
theorem tup_mul {x : D} {n : Nat} (h2 : 2 ≤ n) (h : n ≤ 1000) : opD .mul (.tuple [x]) (.int n) = some (.tuple (List.replicate n x)) := by
  show (if _ then _ else _) = _
  rw [if_pos ⟨by simp, by omega, by omega, by simp⟩]
  congr 2
  simp
theorem inRng_no {ns : List Int} {x : D} (hne : ns ≠ []) (h : ∀ n ∈ ns, (isIntD x && decide (0 ≤ toI x) && decide (toI x < n)) = false) : inRng (List.replicate ns.length x) ns = false := by
  cases ns with
  | nil => exact absurd rfl hne
  | cons n ns =>
    unfold inRng
    rw [List.length_cons, List.replicate_succ, List.zip_cons_cons, List.all_cons, h n List.mem_cons_self]
    rfl
theorem test_no {ns : List Int} {cs : List (List (Int × Int))} {x : D} (hne : ns ≠ []) (h : ∀ n ∈ ns, (isIntD x && decide (0 ≤ toI x) && decide (toI x < n)) = false) : isTestD ns cs (.tuple (List.replicate ns.length x)) = false := by
  unfold isTestD
  simp [inRng_no hne h]
theorem plw_combination : Pl (.tuple [.str "combination"]) := by show ok2 _ = true; decide +kernel
theorem plw_test : Pl (.tuple [.str "test"]) := by show ok2 _ = true; decide +kernel
theorem plw_model4 : Pl (.list [.tuple [.str "model"], .tuple [.str "model"], .tuple [.str "model"], .tuple [.str "model"]]) := by show ok2 _ = true; decide +kernel
theorem pair_cb (ns : List Int) (c : List (Int × Int)) : isPairD ns (cbD c) = false := by
  unfold cbD
  match c with
  | [] => rfl
  | [_] => rfl
  | [_, _] => rfl
  | _ :: _ :: _ :: _ => rfl
theorem comb_cb (ns : List Int) (c : List (Int × Int)) : isCombD ns (.tuple [cbD c]) = false := by
  unfold isCombD
  simp [pair_cb]
/-- what is no model -/
theorem odd_models (ns : List Int) (cs : List (List (Int × Int))) : ∀ d ∈ [PyData.none, .tuple [], .tuple [szD ns], .list [szD ns, .tuple (cs.map cbD)], .tuple [szD ns, .none], .tuple [.tuple [.int 2, .int 2, .int 2, .int 2, .int 2, .int 2], .tuple []]], Pl d ∧ isModelD d = false := by
  intro d hd
  have ps := pl_sz ns
  have ds : (szD ns).depth ≤ 1 := depth_ts ns
  simp only [List.mem_cons, List.not_mem_nil, or_false] at hd
  rcases hd with e | e | e | e | e | e <;> subst e
  · exact ⟨pl_none, rfl⟩
  · exact ⟨pl_nil, rfl⟩
  · exact ⟨pl_tup (n := 1) (by decide) fun x hx => by rw [List.mem_singleton] at hx; subst hx; exact ⟨ps, ds⟩, rfl⟩
  · have := pl_iff.mp (pl_md ns cs)
    exact ⟨pl_iff.mpr ⟨this.1, this.2⟩, rfl⟩
  · refine ⟨pl_tup (n := 1) (by decide) fun x hx => ?_, rfl⟩
    simp only [List.mem_cons, List.not_mem_nil, or_false] at hx
    rcases hx with e | e <;> subst e
    · exact ⟨ps, ds⟩
    · exact ⟨pl_none, Nat.zero_le _⟩
  · exact ⟨by show ok2 _ = true; decide +kernel, by decide +kernel⟩
def JK2 (_k : Nat) (s : Sl) : Prop := ∃ x2 x3 x4 x5 x6 x7 x8 x9 x10, s = [some (.i scrD), some (.i (obD 0)), x2, x3, x4, x5, x6, x7, x8, x9, x10]
theorem ev_k02 {cf : CF} {ib ic id_ ih iis im it ico iic iv ivt : Nat} (fu : Nat) (h : K2Ok cf ib ic id_ ih iis im it ico iic iv ivt) (tl : W) : ∃ w, runF cf fu (f_law_k02 ib ic id_ ih iis im it ico iic iv ivt) [scrD] (.non :: tl) = .ok (.bool true) w := by
  rw [run_code cf fu (f := f_law_k02 ib ic id_ ih iis im it ico iic iv ivt) rfl (s0 := [some (.i scrD), none, none, none, none, none, none, none, none, none, none]) rfl]
  simp only [f_law_k02, b_cons, s_set, e_call, es_nil, m_bnd, m_assoc]
  refine ho_begin (β := D) (h.beg tl) ?_
  simp [bindT, range_ok (n := 4) (by decide) (by decide)]
  refine Ho.bnd (Ho.for JK2 ⟨_, _, _, _, _, _, _, _, _, rfl⟩ ?_) ?_
  · rintro k d s hk ⟨x2, x3, x4, x5, x6, x7, x8, x9, x10, rfl⟩
    simp [turnF, bindT]
    refine Ho.bnd (h.mod 5 3 4 (by decide) (by decide) (by decide) (by decide) (by decide)) ?_
    rintro dm ⟨ns, cs, rfl, hm, hc3⟩
    have hmod : isModelD (mdD ns cs) = true := isModel_of hm (by decide) (by decide) (by decide)
    have hl := hm.len
    have hne : ns ≠ [] := fun e => by rw [e] at hl; simp at hl
    have hsm : Small ns := small_of (by omega) fun n hn => by have := hm.siz n hn; omega
    have hrp : ∀ c ∈ cs, ∀ p ∈ c, 0 ≤ p.1 ∧ p.1 < (ns.length : Int) := fun c hc p hp => ⟨((hm.cmb c hc).rng p hp).1, ((hm.cmb c hc).rng p hp).2.1⟩
    have hv := (h.vts _ (pl_md ns cs)).2 ns cs rfl hmod hsm.b hrp
    simp [bindT, h.tst ns cs hne hsm hrp, hv, biD, tupleD, ne_same (pl_vts ns cs).1, range_ok (n := 4) (by decide) (by decide)]
    refine Ho.bnd (Ho.for (fun _ s => ∃ x5 x6 x7 x8, s = [some (.i scrD), some (.i (obD 0)), some (.i d), some (.i (mdD ns cs)), some (.i (.list ((vts ns cs).map tsD))), x5, x6, x7, x8, x9, x10]) ⟨_, _, _, _, rfl⟩ ?_) ?_
    · rintro j dj s hj ⟨x5, x6, x7, x8, rfl⟩
      simp [turnF, bindT, (ixD_md ns cs).1]
      refine Ho.bnd (h.cmb ns 3 hne (fun n hn => by have := hm.siz n hn; omega) (by omega) (by decide) (by decide)) ?_
      rintro dc ⟨c, rfl, hcb, hcl⟩
      have hnl : Pl (.list []) := pl_iff.mpr ⟨rfl, by decide⟩
      have e0 : PyData.eqv (.list ((vts ns cs).map tsD)) (.list []) = (vts ns cs).isEmpty := by cases vts ns cs <;> simp [PyData.eqv, PyData.eqvAll]
      simp [bindT, LIM, op_ne (pl_vts ns cs).2 hnl, e0]
      by_cases hv0 : vts ns cs = []
      · simp [hv0]
        exact Ho.nx ⟨_, _, _, _, rfl⟩
      · have hlen : 0 < (vts ns cs).length := List.length_pos_iff.mpr hv0
        have hlen2 : (vts ns cs).length ≤ 100000 := by
          have h1 := hsm.b.2.2 ns.length
          rw [List.take_length] at h1
          exact Nat.le_trans (List.length_filter_le _ _) h1
        simp [hv0, biD, lenD]
        refine Ho.bnd (h.drw (vts ns cs).length (by omega) (by omega)) ?_
        rintro dr ⟨r, rfl, r0, r1⟩
        obtain ⟨t, ht⟩ : ∃ t, (vts ns cs)[r.toNat]? = some t := ⟨_, List.getElem?_eq_getElem (by omega)⟩
        have htm := List.mem_of_getElem? ht
        have hrow := (mem_vts.mp htm).1
        have eix : ixD (.list ((vts ns cs).map tsD)) (.int r) = some (tsD t) := by
          show (ixI ((vts ns cs).map tsD).length r).bind _ = _
          unfold ixI
          rw [if_pos r0, List.length_map, if_pos r1, Option.bind_some, List.getElem?_map, ht]
          rfl
        have hit : isTestD ns cs (tsD t) = true := by rw [isTest_ts hrow, (mem_vts.mp htm).2]; rfl
        have hhas := h.has t c fun p hp => by rw [hrow.1]; exact ⟨(hcb.rng p hp).1, (hcb.rng p hp).2.1⟩
        have hcon := h.con.ok ns cs t c hmod hm.cmb hit hcb hrow.1
        have hcon2 := h.con.cb ns cs (tsD t) (.tuple [cbD c]) hmod hm.cmb (pl_ts t) (pl_tup (n := 2) (by decide) fun x hx => by
          rw [List.mem_singleton] at hx
          subst hx
          exact ⟨pl_cb c, depth_cb c⟩) hit (comb_cb ns c)
        simp [eix, bindT, hhas, hcon, appEs, isr h.is_, LIM, hcon2, res2, ne_same plw_combination]
        exact Ho.nx ⟨_, _, _, _, rfl⟩
    · rintro fl ⟨s', rfl, x5, x6, x7, x8, rfl⟩
      have oddm := odd_models ns cs
      have elm : listD (mdD ns cs) = some (.list [szD ns, .tuple (cs.map cbD)]) := rfl
      simp [(ixD_md ns cs).1, LIM, biD, elm, seqD]
      refine Ho.bndP (Pu.for (fun _ s => ∃ x9 x10, s = [some (.i scrD), some (.i (obD 0)), some (.i d), some (.i (mdD ns cs)), some (.i (.list ((vts ns cs).map tsD))), x5, x6, x7, x8, x9, x10]) ⟨_, _, rfl⟩ ?_) ?_
      · rintro j o s hj ⟨x9, x10, rfl⟩
        obtain ⟨hp, ho⟩ := oddm o (List.mem_of_getElem? hj)
        have e4 : opD .add (.list [.tuple [.str "model"], .tuple [.str "model"], .tuple [.str "model"]]) (.list [.tuple [.str "model"]]) = some (.list [.tuple [.str "model"], .tuple [.str "model"], .tuple [.str "model"], .tuple [.str "model"]]) := rfl
        have e5 : opD .mul (.list [.tuple [.str "model"]]) (.int 4) = some (.list [.tuple [.str "model"], .tuple [.str "model"], .tuple [.str "model"], .tuple [.str "model"]]) := rfl
        simp [turnF, bindT, (h.vts o hp).1 ho, res0, LIM, mutS, h.con.md o _ _ hp ho, h.icm o _ hp ho, h.ivl o _ hp ho, e4, e5, ne_same plw_model4]
        exact Pu.nx ⟨_, _, rfl⟩
      · rintro fl ⟨s', rfl, x9, x10, rfl⟩
        have elen : lenD (szD ns) = some (.int ns.length) := by show some (PyData.int (ns.map PyData.int).length) = _; rw [List.length_map]
        simp [(ixD_md ns cs).1, LIM, biD, elen, tup_mul hl.1 (by omega), seqD]
        refine Ho.bndP (Pu.for (fun _ s => ∃ x9 x10, s = [some (.i scrD), some (.i (obD 0)), some (.i d), some (.i (mdD ns cs)), some (.i (.list ((vts ns cs).map tsD))), x5, x6, x7, x8, x9, x10]) ⟨_, _, rfl⟩ ?_) ?_
        · rintro j o s hj ⟨x9, x10, rfl⟩
          have key : Pl o ∧ isTestD ns cs o = false := by
            have ho := List.mem_of_getElem? hj
            simp only [List.mem_cons, List.not_mem_nil, or_false] at ho
            rcases ho with e | e | e | e <;> subst e
            · exact ⟨pl_none, rfl⟩
            · refine ⟨pl_nil, ?_⟩
              unfold isTestD
              have : ¬ 0 = ns.length := by omega
              simp [this]
            · exact ⟨pl_tup (n := 0) (by decide) fun x hx => by rw [List.eq_of_mem_replicate hx]; exact ⟨pl_int 9, Nat.le_refl 0⟩, test_no hne fun n hn => by
                have := hm.siz n hn
                have : ¬ (9 : Int) < n := by omega
                simp [isIntD, toI, this]⟩
            · exact ⟨pl_tup (n := 0) (by decide) fun x hx => by rw [List.eq_of_mem_replicate hx]; exact ⟨pl_bool true, Nat.le_refl 0⟩, test_no hne fun n hn => by simp [isIntD]⟩
          simp [turnF, bindT, LIM, h.con.ts ns cs o .none hmod hm.cmb key.1 key.2, res1, ne_same plw_test]
          exact Pu.nx ⟨_, _, rfl⟩
        · rintro fl ⟨s', rfl, x9, x10, rfl⟩
          simp
          exact Ho.nx ⟨_, _, _, _, _, _, _, _, _, rfl⟩
  · rintro fl ⟨s', rfl, x2, x3, x4, x5, x6, x7, x8, x9, x10, rfl⟩
    simp
    exact Ho.ret rfl
end Ev

set_option Elab.async false
set_option linter.all false
set_option maxRecDepth 100000
set_option autoImplicit false
/-! EvK5: the law k05, its parts. -/
namespace Ev
open PySem
/-- a model of the law: sizes 2..4, at most five, its rules in range -/
structure MdB (ns : List Int) (cs : List (List (Int × Int))) : Prop where
  mod : isModelD (mdD ns cs) = true
  len : 2 ≤ ns.length ∧ ns.length ≤ 3
  siz : ∀ n ∈ ns, 2 ≤ n ∧ n ≤ 3
  rng : InR ns cs
/-- what the law's defs answer -/
structure K5Ok (cf : CF) (ib ic ico id_ im iop ipa it ibl ihi : Nat) : Prop where
  beg : ∀ tl, cf ib [] (.non :: tl) = .ok (obD 0) (.town 0 [] :: tl)
  cmb : CombinOk cf ic
  drw : DrawOk cf id_
  mod : ModelDraw cf im
  tst : LTests cf it
  lco : ∀ ns, ns.length ≤ 50 → (∀ n ∈ ns, 0 ≤ n ∧ n < 1000) → (∀ k, (lcT ((enI 0 ns).take k)).length ≤ 100000) → cf ico [szD ns] = ret (.list (((lcT (enI 0 ns)).drop 1).map cbD))
  opn : ∀ ts c, (∀ t ∈ ts, ∀ p ∈ c, 0 ≤ p.1 ∧ p.1 < (t.length : Int)) → cf iop [.list (ts.map tsD), cbD c] = ret (.bool (openB ts c))
  prt : ∀ c, c.length ≤ 10 → cf ipa [cbD c] = ret (.list ((lpT c).map cbD))
  blk : ∀ ns cs c, MdB ns cs → CbOk ns c → Pu (cf ibl [mdD ns cs, cbD c]) fun v => (v = .none ∧ OpTo (vts ns cs) c c.length (c.length + 1)) ∨ BlkSp (vts ns cs) c c.length v
  blc : ∀ ns cs d, MdB ns cs → Pl d → isCombD ns d = false → cf ibl [mdD ns cs, d] = thr 2
  blm : ∀ d e, Pl d → isModelD d = false → cf ibl [d, e] = thr 0
  hid : ∀ ns cs, MdB ns cs → cf ihi [mdD ns cs] = ret (.tuple (sortD ((hidT (posK (vts ns cs)) (exts ns) ns.length).map cbD)))
  him : ∀ d, Pl d → isModelD d = false → cf ihi [d] = thr 0
theorem lcS_len (rows : List (List (Int × Int))) (q : Int × Int) : (lcS rows q).length = rows.length * (1 + q.2.toNat) := by
  unfold lcS
  rw [List.length_append, List.length_flatMap]
  simp [rngI_len, List.map_const', Nat.mul_add]
  rw [Nat.mul_comm]
theorem lcT_small {ns : List Int} (hl : ns.length ≤ 5) (h : ∀ n ∈ ns, 0 ≤ n ∧ n ≤ 4) (k : Nat) : (lcT ((enI 0 ns).take k)).length ≤ 100000 := by
  have key : ∀ qs : List (Int × Int), (∀ q ∈ qs, q.2 ≤ 4) → (lcT qs).length ≤ 5 ^ qs.length := fun qs => by
    refine snoc_ind (P := fun qs => (∀ q ∈ qs, q.2 ≤ 4) → (lcT qs).length ≤ 5 ^ qs.length) (fun _ => Nat.le_refl _) (fun l x ih hq => ?_) qs
    rw [lcT_snoc, lcS_len, List.length_append, List.length_singleton, Nat.pow_succ]
    have h1 := ih fun q hq' => hq q (List.mem_append_left _ hq')
    have h2 := hq x (by simp)
    exact Nat.mul_le_mul h1 (by omega)
  have hq : ∀ q ∈ (enI 0 ns).take k, q.2 ≤ 4 := fun q hq => (h _ (enI_mem 0 ns q (List.mem_of_mem_take hq)).2.2).2
  have h1 := key _ hq
  have hlen : (enI 0 ns).length = ns.length := by
    have : ∀ (n : Nat) (l : List Int), (enI n l).length = l.length := fun n l => by
      induction l generalizing n with
      | nil => rfl
      | cons x l ih => rw [enI, List.length_cons, List.length_cons, ih]
    exact this 0 ns
  have h2 : ((enI 0 ns).take k).length ≤ 5 := by
    rw [List.length_take]
    omega
  have h3 : 5 ^ ((enI 0 ns).take k).length ≤ 5 ^ 5 := Nat.pow_le_pow_right (by decide) h2
  have h4 : (5 : Nat) ^ 5 = 3125 := by decide
  omega
/-! ### pieces -/
theorem eq_lnil {l : List D} (h : Pl (.list l)) : (opD .eq (.list l) (.list [])).bind boolD = some l.isEmpty := by
  rw [op_eq h pl_lnil]
  cases l <;> simp [PyData.eqv, PyData.eqvAll, boolD]
theorem pl_cbs (l : List (List (Int × Int))) : Pl (.list (l.map cbD)) ∧ Pl (.tuple (l.map cbD)) := by
  have : ∀ x ∈ l.map cbD, Pl x ∧ x.depth ≤ 2 := fun x hx => by
    obtain ⟨c, _, rfl⟩ := List.mem_map.mp hx
    exact ⟨pl_cb c, depth_cb c⟩
  exact ⟨pl_lst (by decide) this, pl_tup (by decide) this⟩
theorem pl_scbs (l : List (List (Int × Int))) : Pl (.list (sortD (l.map cbD))) ∧ Pl (.tuple (sortD (l.map cbD))) := by
  have : ∀ x ∈ sortD (l.map cbD), Pl x ∧ x.depth ≤ 2 := fun x hx => by
    obtain ⟨c, _, rfl⟩ := List.mem_map.mp ((sortD_perm _).mem_iff.mp hx)
    exact ⟨pl_cb c, depth_cb c⟩
  exact ⟨pl_lst (by decide) this, pl_tup (by decide) this⟩
theorem mdB_of {r : Nat} {ns : List Int} {cs : List (List (Int × Int))} (h : MdOk 3 3 r ns cs) (hr : r ≤ 8) : MdB ns cs :=
  ⟨isModel_of h (by decide) (by decide) hr, h.len, h.siz, fun c hc p hp => ⟨((h.cmb c hc).rng p hp).1, ((h.cmb c hc).rng p hp).2.1⟩⟩
/-- all values of parameter 0 are forbidden -/
def all0 (n : Int) : List (List (Int × Int)) := (rngI 0 n).map fun v => [(0, v)]
theorem all0_md {ns : List Int} (hl : 2 ≤ ns.length ∧ ns.length ≤ 3) (hs : ∀ n ∈ ns, 2 ≤ n ∧ n ≤ 3) : MdB ns (all0 (ns.getD 0 0)) := by
  have h0 : ns.getD 0 0 ∈ ns := getD_mem (ns := ns) (p := 0) (by decide) (by omega)
  have hn := hs _ h0
  refine mdB_of (r := 8) ⟨hl, hs, ?_, fun c hc => ?_, ?_⟩ (by decide)
  · unfold all0
    rw [List.length_map, rngI_len]
    omega
  · obtain ⟨v, hv, rfl⟩ := List.mem_map.mp hc
    rw [mem_rngI] at hv
    refine ⟨by simp, fun p hp => ?_, by simp⟩
    rw [List.mem_singleton] at hp
    subst hp
    exact ⟨Int.le_refl _, by simp; omega, hv.1, hv.2⟩
  · have : ns.getD 0 0 = 2 ∨ ns.getD 0 0 = 3 := by omega
    rcases this with e | e <;> rw [e] <;> decide +kernel
def hidB (ts : List (List Int)) (c : List (Int × Int)) : Bool := !openB ts c && (List.range c.length).all fun i => openB ts (del c i)
theorem hidB_iff (ts : List (List Int)) (c : List (Int × Int)) : hidB ts c = true ↔ isHid ts c := by
  unfold hidB isHid
  rw [Bool.and_eq_true, List.all_eq_true]
  constructor
  · rintro ⟨h1, h2⟩
    exact ⟨by simpa using h1, fun i hi => h2 i (List.mem_range.mpr hi)⟩
  · rintro ⟨h1, h2⟩
    exact ⟨by simpa using h1, fun i hi => h2 i (List.mem_range.mp hi)⟩
theorem mem_of_del {c : List (Int × Int)} {i : Nat} {p : Int × Int} (h : p ∈ del c i) : p ∈ c := (del_sub c i).subset h
def JK5 (_k : Nat) (s : Sl) : Prop := ∃ x2 x3 x4 x5 x6 x7 x8 x9 x10 x11 x12 x13 x14 x15 x16, s = [some (.i scrD), some (.i (obD 0)), x2, x3, x4, x5, x6, x7, x8, x9, x10, x11, x12, x13, x14, x15, x16]
theorem plw_comb2 : Pl (.list [.tuple [.str "combination"], .tuple [.str "combination"]]) := by show ok2 _ = true; decide +kernel
theorem plw_model2 : Pl (.list [.tuple [.str "model"], .tuple [.str "model"]]) := by show ok2 _ = true; decide +kernel
theorem ev_k05 {cf : CF} {ib ic ico id_ im iop ipa it ibl ihi : Nat} (fu : Nat) (h : K5Ok cf ib ic ico id_ im iop ipa it ibl ihi) (tl : W) : ∃ w, runF cf fu (f_law_k05 ib ic ico id_ im iop ipa it ibl ihi) [scrD] (.non :: tl) = .ok (.bool true) w := by
  rw [run_code cf fu (f := f_law_k05 ib ic ico id_ im iop ipa it ibl ihi) rfl (s0 := [some (.i scrD), none, none, none, none, none, none, none, none, none, none, none, none, none, none, none, none]) rfl]
  simp only [f_law_k05, b_cons, s_set, e_call, es_nil, m_bnd, m_assoc]
  refine ho_begin (β := D) (h.beg tl) ?_
  simp -implicitDefEqProofs [bindT, range_ok (n := 4) (by decide) (by decide)]
  refine Ho.bnd (Ho.for JK5 ⟨_, _, _, _, _, _, _, _, _, _, _, _, _, _, _, rfl⟩ ?_) ?_
  · rintro k d s hk ⟨x2, x3, x4, x5, x6, x7, x8, x9, x10, x11, x12, x13, x14, x15, x16, rfl⟩
    simp -implicitDefEqProofs [turnF, bindT]
    refine Ho.bnd (h.mod 3 3 6 (by decide) (by decide) (by decide) (by decide) (by decide)) ?_
    rintro dm ⟨ns, cs0, rfl, hm, hc3⟩
    have hmb0 : MdB ns cs0 := mdB_of hm (by decide)
    refine Ho.bnd (h.drw 5 (by decide) (by decide)) ?_
    rintro dr ⟨r, rfl, r0, r1⟩
    have er : (opD .eq (.int r) (.int 0)).bind boolD = some (r == 0) := eq_int r 0
    have hsz0 : ns.getD 0 0 ∈ ns := getD_mem (ns := ns) (p := 0) (by decide) (by have := hm.len; omega)
    have hn0 := hm.siz _ hsz0
    simp -implicitDefEqProofs only [er, m_lift, m_bnd]
    refine Ho.bndP (P := fun fl => ∃ cs, MdB ns cs ∧ fl = .nx [some (.i scrD), some (.i (obD 0)), some (.i d), some (.i (mdD ns cs)), x4, x5, x6, x7, x8, x9, x10, x11, x12, x13, x14, x15, x16]) ?_ ?_
    · by_cases hr : r = 0
      · subst hr
        have e1 := (ixD_md ns cs0).1
        have e2 : ixD (szD ns) (.int 0) = some (.int (ns.getD 0 0)) := ixD_sz (by decide) (by have := hm.len; omega)
        have hall := all0_md hm.len hm.siz
        generalize ns.getD 0 0 = n0 at *
        simp -implicitDefEqProofs [e1]
        refine Pu.compM PyData.int (rngI 0 n0) (fun v => cbD [(0, v)]) ?_ (fun v _ => ?_) ?_
        · have e3 := rangeD_ok (lo := 0) (hi := n0) (by decide) (by decide) (by omega) (by omega)
          simp -implicitDefEqProofs [e1, e2, e3]
        · simp -implicitDefEqProofs [turnC, wipeA, bindT, LIM]
          rfl
        · simp -implicitDefEqProofs [biD, tupleD, LIM]
          refine .ret ⟨all0 n0, hall, ?_⟩
          simp [mdD, all0, Function.comp_def]
      · have hr' : (r == 0) = false := by simpa using hr
        rw [hr', if_neg (by decide)]
        exact .ret ⟨cs0, hmb0, rfl⟩
    · rintro fl ⟨cs, hmb, rfl⟩
      clear hmb0 hc3 r0 r1 er
      clear hm
      have hl := hmb.len
      have hne : ns ≠ [] := fun e => by rw [e] at hl; simp at hl
      have hsm : Small ns := small_of (by omega) fun n hn => by have := hmb.siz n hn; omega
      have htl : ∀ t ∈ vts ns cs, t.length = ns.length := fun t ht => (mem_vts.mp ht).1.1
      have hT := h.tst ns cs hne hsm hmb.rng
      have hL := h.lco ns (by omega) (fun n hn => by have := hmb.siz n hn; omega) (lcT_small (by omega) fun n hn => by have := hmb.siz n hn; omega)
      have hLc := mem_lcombs ns
      have hdp := due_perm ns cs (hidB (vts ns cs)) (hidB_iff (vts ns cs))
      have hLl : ((lcT (enI 0 ns)).drop 1).length ≤ 100000 := by
        have := lcT_small (ns := ns) (by omega) (fun n hn => by have := hmb.siz n hn; omega) (enI 0 ns).length
        rw [List.take_length] at this
        rw [List.length_drop]
        omega
      have hhid := h.hid ns cs hmb
      have e1 := (ixD_md ns cs).1
      have hop : ∀ c, (∀ p ∈ c, 0 ≤ p.1 ∧ p.1 < (ns.length : Int)) → cf iop [.list ((vts ns cs).map tsD), cbD c] = ret (.bool (openB (vts ns cs) c)) := fun c hc => h.opn _ c fun t ht p hp => by rw [htl t ht]; exact hc p hp
      have hblk := fun c => h.blk ns cs c hmb
      have hblc := fun d => h.blc ns cs d hmb
      have hcmb := h.cmb ns 3 hne (fun n hn => by have := hmb.siz n hn; omega) (by omega) (by decide) (by decide)
      have hdp2 := sort_eq_cb hdp
      have hsok : sortOk ((((lcT (enI 0 ns)).drop 1).filter (hidB (vts ns cs))).map cbD) = true := sortOk_cb fun c hc => ((hLc c).mp (List.mem_filter.mp hc).1).1
      generalize (lcT (enI 0 ns)).drop 1 = L at *
      generalize hhh : hidT (posK (vts ns cs)) (exts ns) ns.length = HH at *
      generalize hts : vts ns cs = ts at *
      generalize hmd : mdD ns cs = md at *
      simp -implicitDefEqProofs [hT, LIM, mutS, e1, hL, seqD]
      refine Ho.bndP (Pu.forM cbD L rfl (fun k s => ∃ y6 y7 y8, s = [some (.i scrD), some (.i (obD 0)), some (.i d), some (.i md), some (.i (.list (ts.map tsD))), some (.l (((L.take k).filter (hidB ts)).map cbD)), y6, y7, y8, x9, x10, x11, x12, x13, x14, x15, x16]) ⟨x6, x7, x8, by simp⟩ ?_) ?_
      · rintro j c s hj ⟨y6, y7, y8, rfl⟩
        obtain ⟨c1, c2, c3⟩ := (hLc c).mp (List.mem_of_getElem? hj)
        have hcl := cb_len_of c2
        have hjl : j < L.length := (List.getElem?_eq_some_iff.mp hj).1
        have hln : biD .len (cbD c) = some (.int c.length) := by
          show some (PyData.int ((c.map prI).length : Int)) = _
          rw [List.length_map]
        have hrg : rangeD 0 (c.length : Int) = some ((List.range c.length).map fun (j : Nat) => .int j) := range_ok (by omega) (by omega)
        have e2 : ((L.take (j + 1)).filter (hidB ts)) = (L.take j).filter (hidB ts) ++ if hidB ts c = true then [c] else [] := by
          rw [List.take_add_one, hj, List.filter_append]
          cases hh : hidB ts c <;> simp [hh]
        have hcl2 : ((L.take j).filter (hidB ts)).length ≤ 100000 := Nat.le_trans (List.length_filter_le ..) (Nat.le_trans (List.length_take_le' ..) hLl)
        rw [e2]
        generalize (L.take j).filter (hidB ts) = acc at *
        have hoc := hop c c2.rng
        simp -implicitDefEqProofs [turnF, bindT]
        refine Pu.compM (fun (i : Nat) => PyData.int i) (List.range c.length) (fun i => cbD (del c i)) (by simp -implicitDefEqProofs [hln, hrg]) (fun i hi => ?_) ?_
        · have ha := add_del c (i := i) (List.mem_range.mp hi) (by omega)
          have e5 : slD (cbD c) none (some (i : Int)) = some (.tuple (cutD (c.map prI) none (some (i : Int)))) := rfl
          have e6 : slD (cbD c) (some ((i : Int) + 1)) none = some (.tuple (cutD (c.map prI) (some ((i : Int) + 1)) none)) := rfl
          have e7 : opD .add (.int (i : Int)) (.int 1) = some (.int ((i : Int) + 1)) := rfl
          simp -implicitDefEqProofs [turnC, wipeA, bindT, e5, e6, e7, ha]
        · refine Pu.compK (fun i => cbD (del c i)) (fun i => cbD (del c i)) (List.range c.length) (fun i => !openB ts (del c i)) (by simp -implicitDefEqProofs [seqD]) (fun i hi => ?_) ?_
          · have := hop (del c i) fun p hp => c2.rng p (mem_of_del hp)
            simp -implicitDefEqProofs [turnC, wipeA, bindT, this]
            cases openB ts (del c i) <;> simp -implicitDefEqProofs
          · have hpl : Pl (.list (((List.range c.length).filter fun i => !openB ts (del c i)).map fun i => cbD (del c i))) := by
              have := (pl_cbs (((List.range c.length).filter fun i => !openB ts (del c i)).map (del c))).1
              rw [List.map_map] at this
              exact this
            have hem : (((List.range c.length).filter fun i => !openB ts (del c i)).map fun i => cbD (del c i)).isEmpty = (List.range c.length).all fun i => openB ts (del c i) := by
              rw [Bool.eq_iff_iff, List.isEmpty_iff, List.map_eq_nil_iff, List.filter_eq_nil_iff, List.all_eq_true]
              simp
            have heq := eq_lnil hpl
            rw [hem] at heq
            generalize (((List.range c.length).filter fun i => !openB ts (del c i)).map fun i => cbD (del c i)) = sh at *
            have hhb : hidB ts c = (!openB ts c && (List.range c.length).all fun i => openB ts (del c i)) := rfl
            rw [hhb]
            generalize ((List.range c.length).all fun i => openB ts (del c i)) = al at *
            simp -implicitDefEqProofs [hoc, LIM, heq]
            cases openB ts c with
            | true =>
              simp -implicitDefEqProofs
              exact Pu.nx ⟨_, _, _, rfl⟩
            | false =>
              cases al with
              | false =>
                simp -implicitDefEqProofs
                exact Pu.nx ⟨_, _, _, rfl⟩
              | true =>
                have : acc.length < 16777216 := by omega
                simp -implicitDefEqProofs [this]
                exact Pu.nx ⟨_, _, _, rfl⟩
      · rintro fl ⟨s', rfl, y6, y7, y8, rfl⟩
        rw [List.take_length]
        have hnh := ne_same (pl_scbs (L.filter (hidB ts))).2
        rw [← hdp2] at hhid
        generalize (L.filter (hidB ts)).map cbD = DD at *
        simp -implicitDefEqProofs [hhid, biD, sortedD, hsok, tupleD, hnh, range_ok (n := 3) (by decide) (by decide)]
        refine Ho.bnd (Ho.for (fun _ s => ∃ y9 y10 y11 y12, s = [some (.i scrD), some (.i (obD 0)), some (.i d), some (.i md), some (.i (.list (ts.map tsD))), some (.l DD), y6, y7, y8, y9, y10, y11, y12, x13, x14, x15, x16]) ⟨_, _, _, _, rfl⟩ ?_) ?_
        · rintro j dj s hj ⟨y9, y10, y11, y12, rfl⟩
          simp -implicitDefEqProofs [turnF, bindT, e1]
          refine Ho.bnd hcmb ?_
          rintro dc ⟨c, rfl, hcb, hcl⟩
          have hcl' : c.length ≤ 3 := by omega
          have hrng : ∀ p ∈ c, 0 ≤ p.1 ∧ p.1 < (ns.length : Int) := fun p hp => ⟨(hcb.rng p hp).1, (hcb.rng p hp).2.1⟩
          have hprt := h.prt c (by omega)
          have hasc : (c.map (·.1)).Pairwise (· < ·) := by rw [List.pairwise_map]; exact hcb.asc
          refine Ho.bndE (a := .list ((badP ts c).map cbD)) ?_ ?_
          · have := ev_comp (cf := cf) (elt := .var 16) (tg := .name 16) (it := .seq (.call ipa (.cons (.var 10) .nil))) (ifs := .one (.not (.val (.call iop (.cons (.var 4) (.cons (.var 16) .nil)))))) (own := [16]) (s := [some (.i scrD), some (.i (obD 0)), some (.i d), some (.i md), some (.i (.list (ts.map tsD))), some (.l DD), y6, y7, y8, some (.i dj), some (.i (cbD c)), y11, y12, x13, x14, x15, x16]) cbD (lpT c) (fun d => if (!openB ts d) = true then some (cbD d) else none) (by simp -implicitDefEqProofs [hprt, seqD]) (fun d hd => ?_)
            · rw [filterMap_keep] at this
              exact this
            · have := hop d fun p hp => hrng p (((mem_lpT c d).mp hd).subset hp)
              simp -implicitDefEqProofs [turnC, wipeA, bindT, this]
              cases openB ts d <;> simp -implicitDefEqProofs
          · have hpl := (pl_cbs (badP ts c)).1
            have heq := eq_lnil hpl
            obtain ⟨v, ev, hv⟩ := hblk c hcb
            rcases hv with ⟨rfl, hop2⟩ | hb
            · have hb := bad_nil hop2
              rw [hb] at heq ⊢
              simp -implicitDefEqProofs [bindT, appEs] at heq ⊢
              simp -implicitDefEqProofs [bindT, appEs, heq, ev, ne_same pl_none]
              exact Ho.nx ⟨_, _, _, _, rfl⟩
            · obtain ⟨m, rfl, hne2, hmin⟩ := min_bad hasc hb
              have hie : ((badP ts c).map cbD).isEmpty = false := by
                cases hbp : badP ts c with
                | nil => exact absurd hbp hne2
                | cons a l => rfl
              rw [hie] at heq
              have hcomp : evE cf (.comp (.tup (.cons (.bi .len (.pk 16)) (.cons (.var 16) .nil))) (.name 16) (.seq (.var 11)) .yes [16]) [some (.i scrD), some (.i (obD 0)), some (.i d), some (.i md), some (.i (.list (ts.map tsD))), some (.l DD), y6, y7, y8, some (.i dj), some (.i (cbD c)), some (.i (.list ((badP ts c).map cbD))), y12, x13, x14, x15, x16] = ret (.list ((badP ts c).map lenP)) := by
                refine ev_compM cbD (badP ts c) lenP (by simp -implicitDefEqProofs [seqD]) fun q hq => ?_
                have hln : biD .len (cbD q) = some (.int q.length) := by
                  show some (PyData.int ((q.map prI).length : Int)) = _
                  rw [List.length_map]
                simp -implicitDefEqProofs [turnC, wipeA, bindT, LIM, hln]
                rfl
              have hmn : biD .min (.list ((badP ts c).map lenP)) = some (lenP m) := by
                cases hbp : badP ts c with
                | nil => exact absurd hbp hne2
                | cons a l =>
                  have hmm := hmin (lenP a) (l.map lenP) (by rw [hbp]; rfl)
                  have hok : mnOk (lenP a :: l.map lenP) = true := by
                    have hmem : ∀ x ∈ lenP a :: l.map lenP, ∃ q, x = lenP q := fun x hx => by
                      rcases List.mem_cons.mp hx with e | hx
                      · exact ⟨a, e⟩
                      · obtain ⟨q, _, rfl⟩ := List.mem_map.mp hx
                        exact ⟨q, rfl⟩
                    unfold mnOk
                    simp only [Bool.and_eq_true, List.all_eq_true]
                    refine ⟨⟨fun x hx y hy => ?_, fun x hx => ?_⟩, fun x hx => ?_⟩
                    · obtain ⟨q, rfl⟩ := hmem x hx
                      obtain ⟨q', rfl⟩ := hmem y hy
                      exact alike_lenP q q'
                    · obtain ⟨q, rfl⟩ := hmem x hx
                      rfl
                    · obtain ⟨q, rfl⟩ := hmem x hx
                      exact pl_tup (n := 2) (by decide) fun y hy => by
                        simp only [List.mem_cons, List.not_mem_nil, or_false] at hy
                        rcases hy with e | e <;> subst e
                        · exact ⟨pl_int _, Nat.zero_le _⟩
                        · exact ⟨pl_cb q, depth_cb q⟩
                  show (if mnOk (lenP a :: l.map lenP) = true then some (minT (lenP a) (l.map lenP)) else none) = _
                  rw [if_pos hok, hmm]
              have hix : ixD (lenP m) (.int 1) = some (cbD m) := rfl
              simp -implicitDefEqProofs [LIM, heq, hcomp, hmn, hix, bindT, appEs, ev, ne_same (pl_cb m)]
              exact Ho.nx ⟨_, _, _, _, rfl⟩
        · rintro fl ⟨s', rfl, y9, y10, y11, y12, rfl⟩
          have hb1 := hblc (.tuple []) pl_nil rfl
          have hb2 := hblc (.tuple [.tuple [.int 0, .int 9]]) (pl_cb [(0, 9)]) (by
            have e := isComb_iff (ns := ns) (c := [(0, 9)])
            cases hh : isCombD ns (cbD [(0, 9)]) with
            | false => exact hh
            | true =>
              have := (e.mp hh).rng (0, 9) (by simp)
              have := hn0
              simp at *
              omega)
          have hb3 := h.blm .none .none pl_none rfl
          have hb4 := h.him (.list []) pl_lnil rfl
          have e4 : opD .add (.list [.tuple [.str "combination"]]) (.list [.tuple [.str "combination"]]) = some (.list [.tuple [.str "combination"], .tuple [.str "combination"]]) := rfl
          have e5 : opD .mul (.list [.tuple [.str "combination"]]) (.int 2) = some (.list [.tuple [.str "combination"], .tuple [.str "combination"]]) := rfl
          have e6 : opD .add (.list [.tuple [.str "model"]]) (.list [.tuple [.str "model"]]) = some (.list [.tuple [.str "model"], .tuple [.str "model"]]) := rfl
          have e7 : opD .mul (.list [.tuple [.str "model"]]) (.int 2) = some (.list [.tuple [.str "model"], .tuple [.str "model"]]) := rfl
          simp -implicitDefEqProofs [bindT, LIM, hb1, hb2, hb3, hb4, res0, res2, e4, e5, e6, e7, ne_same plw_comb2, ne_same plw_model2]
          exact Ho.nx ⟨_, _, _, _, _, _, _, _, _, _, _, _, _, _, _, rfl⟩
  · rintro fl ⟨s', rfl, x2, x3, x4, x5, x6, x7, x8, x9, x10, x11, x12, x13, x14, x15, x16, rfl⟩
    simp
    exact Ho.ret rfl
/-! ### the errors -/
theorem ev_blocking_m {cf : CF} {ia ic ik ih is_ x : Nat} (fu : Nat) (hK : CheckOk cf ik x) {d e : D} (h : Pl d) (hm : isModelD d = false) : runF cf fu (f_blocking ia ic ik ih is_) [d, e] = thr x := by
  rw [run_code cf fu (f := f_blocking ia ic ik ih is_) rfl (s0 := [some (.i d), some (.i e), none, none, none, none, none, none]) rfl]
  have := hK d h
  rw [hm, if_neg (by decide)] at this
  simp -implicitDefEqProofs [f_blocking, this]
theorem ev_blocking_c {cf : CF} {ia ic ik ih is_ x y : Nat} (fu : Nat) (hK : CheckOk cf ik x) {ns : List Int} {cs : List (List (Int × Int))} {d : D} (hm : isModelD (mdD ns cs) = true) (hC : cf ic [mdD ns cs, d] = if isCombD ns d = true then ret .none else thr y) (hc : isCombD ns d = false) : runF cf fu (f_blocking ia ic ik ih is_) [mdD ns cs, d] = thr y := by
  rw [run_code cf fu (f := f_blocking ia ic ik ih is_) rfl (s0 := [some (.i (mdD ns cs)), some (.i d), none, none, none, none, none, none]) rfl]
  have h1 := hK _ (pl_md ns cs)
  rw [hm, if_pos rfl] at h1
  rw [hc, if_neg (by decide)] at hC
  simp -implicitDefEqProofs [f_blocking, h1, hC]
theorem ev_hidden_m {cf : CF} {ik ie ip x : Nat} (fu : Nat) (hK : CheckOk cf ik x) {d : D} (h : Pl d) (hm : isModelD d = false) : runF cf fu (f_hidden_rules ik ie ip) [d] = thr x := by
  rw [run_code cf fu (f := f_hidden_rules ik ie ip) rfl (s0 := [some (.i d), none, none, none, none, none, none, none, none, none]) rfl]
  have := hK d h
  rw [hm, if_neg (by decide)] at this
  simp -implicitDefEqProofs [f_hidden_rules, this]
end Ev

set_option Elab.async false
set_option linter.all false
set_option maxRecDepth 100000
namespace K05
open PySem PySem.Spec PyProof.Rows L2 Ev
def topS (i : Nat) : Stmt := PySem.Challenge.pw_faultcover_k05_blocking.main.body.getD i (.Pass ⟨0, 0, 0, 0⟩)
def tb : Tb := ⟨[("_law_begun", []), ("_law_draw", ["script", "town", "many"]), ("_law_combination", ["script", "town", "sizes", "most"]), ("_law_model", ["script", "town", "many", "values", "rules"]), ("_law_combinations", ["sizes"]), ("_law_has", ["test", "combination_here"]), ("_law_tests", ["model_here"]), ("is_ascending", ["values"]), ("is_integer", ["value"]), ("is_pair_of", ["sizes", "value"]), ("is_combination_of", ["sizes", "value"]), ("is_model", ["value"]), ("check_model", ["model"]), ("has_all", ["test", "combination"]), ("all_tests", ["model"]), ("projection", ["test", "parameters"]), ("subsets", ["many", "size"]), ("projections", ["test", "size"]), ("possible_of", ["model", "size"]), ("extensions", ["sizes", "combination"]), ("hidden_rules", ["model"]), ("_law_result", ["call"]), ("check_combination", ["model", "combination"]), ("blocking", ["model", "combination"]), ("_law_open", ["tests", "part"]), ("_law_parts", ["values"]), ("law", ["script"])], ["isinstance", "ValueError", "len", "range", "tuple", "sorted", "set", "enumerate", "list", "all", "zip", "bool", "int", "any", "min"], [("RULES", 8)], ["InvalidModel", "InvalidTest", "InvalidCombination", "InvalidSuite", "InvalidStrength", "InvalidText", "InvalidHypothesis", "InvalidNumber", "InvalidResults", "InvalidIndex", "TooLarge", "TooMany", "Unexplained", "Same", "Contradiction", "InUse", "NothingToUndo", "TestError"], [(20, 0), (23, 1)]⟩
/-! _law_combination -/
def n2 : List Str := ["script", "town", "sizes", "most", "found", "k", "parameter"]
def c2 : Fn := f_law_combination 1
theorem d2 {fd : Nat → FuncData} {ca : Nat → Addr} {b : Bx} {cf : CF} {k fu : Nat} {X : Cx} (O : Ok tb fd ca b cf k X n2 (defScope (topS 42)) (fun _ => true)) (po : PassesOwn (model X.prog X.w) X.A X.env X.xe) : PSs X (defBody (topS 42)) (rS b (evB cf fu c2.body)) :=
  sb_cons (g_setM O sf_dnew) (sb_cons (g_for O po (i_range1 O (rE.toR (g_add (rE.toR g_int) (rE.toR (g_call O (g_cons (g_var O) (g_cons (g_var O) (g_cons (g_var O) g_nil)))))))) (g_name O) (sb_cons (g_set O (g_call O (g_cons (g_var O) (g_cons (g_var O) (g_cons (g_len O (g_pk O)) g_nil))))) (sb_cons (g_dput O (g_var O) (g_call O (g_cons (g_var O) (g_cons (g_var O) (g_cons (g_ix O (g_pk O) (g_pk O)) g_nil))))) sb_nil))) (sb_cons (ss_ret (g_tuple O (rE.toR (g_sitems O (g_pk O))))) sb_nil))
/-! _law_model -/
def n3 : List Str := ["script", "town", "many", "values", "rules", "sizes", "some", "k", "one"]
def c3 : Fn := f_law_model 2 1
theorem d3 {fd : Nat → FuncData} {ca : Nat → Addr} {b : Bx} {cf : CF} {k fu : Nat} {X : Cx} (O : Ok tb fd ca b cf k X n3 (defScope (topS 43)) (fun _ => true)) (po : PassesOwn (model X.prog X.w) X.A X.env X.xe) : PSs X (defBody (topS 43)) (rS b (evB cf fu c3.body)) :=
  sb_cons (g_set O (g_tuple O (rE.toR (g_comp O (own := [("k", 7)]) (i_range1 O (rE.toR (g_add (rE.toR g_int) (rE.toR (g_call O (g_cons (g_var O) (g_cons (g_var O) (g_cons (g_sub (g_pk O) (rE.toR g_int)) g_nil)))))))) (fun X O => g_name O) (fun X O => g_yes) (fun X O => g_add (rE.toR g_int) (rE.toR (g_call O (g_cons (g_var O) (g_cons (g_var O) (g_cons (g_sub (g_pk O) (rE.toR g_int)) g_nil)))))))))) (sb_cons (g_setL O (own := [("k", 7)]) (i_range1 O (rE.toR (g_call O (g_cons (g_var O) (g_cons (g_var O) (g_cons (g_add (g_pk O) (rE.toR g_int)) g_nil)))))) (fun X O => g_name O) (fun X O => g_yes) (fun X O => g_call O (g_cons (g_var O) (g_cons (g_var O) (g_cons (g_var O) (g_cons g_int g_nil)))))) (sb_cons (ss_ret (se_tup (g_cons (g_var O) (g_cons (g_tuple O (rE.toR (g_sset O (rE.toR (g_comp O (own := [("one", 8)]) (i_seq (g_var O)) (fun X O => g_name O) (fun X O => g_one (PW.pt (sw_or (q_cmp O.gt (rE.toR (g_len O (g_pk O))) (rE.toR g_int)) (pw_or1 (q_cmp O.eq (rE.toR (g_call O (g_cons (g_var O) (g_cons (g_var O) (g_cons g_int g_nil))))) (rE.toR g_int)))))) (fun X O => g_var O)))))) g_nil)))) sb_nil))
/-! _law_combinations -/
def n4 : List Str := ["sizes", "rows", "parameter", "size", "longer", "value", "row"]
def c4 : Fn := f_law_combinations
theorem d4 {fd : Nat → FuncData} {ca : Nat → Addr} {b : Bx} {cf : CF} {k fu : Nat} {X : Cx} (O : Ok tb fd ca b cf k X n4 (defScope (topS 47)) (fun _ => true)) (po : PassesOwn (model X.prog X.w) X.A X.env X.xe) : PSs X (defBody (topS 47)) (rS b (evB cf fu c4.body)) :=
  sb_cons (g_set O (se_lst (g_cons (se_tup g_nil) g_nil))) (sb_cons (g_for O po (i_enum O (g_var O)) (g_ttup O (g_tcons (g_name O) (g_tcons (g_name O) sgs_nil))) (sb_cons (g_setM O (g_listF O (g_pk O))) (sb_cons (g_for O po (i_range1 O (g_pk O)) (g_name O) (sb_cons (g_ext O (g_comp O (own := [("row", 6)]) (i_seq (g_var O)) (fun X O => g_name O) (fun X O => g_yes) (fun X O => g_add (g_pk O) (rE.toR (se_tup (g_cons (se_tup (g_cons (g_var O) (g_cons (g_var O) g_nil))) g_nil)))))) sb_nil)) (sb_frz (sb_cons (g_set O (g_var O)) sb_nil))))) (sb_cons (ss_ret (se_sl (g_pk O) (so_so (rE.toR g_int)) so_no)) sb_nil))
/-! _law_has -/
def n5 : List Str := ["test", "combination_here", "parameter", "value"]
def c5 : Fn := f_law_has
theorem d5 {fd : Nat → FuncData} {ca : Nat → Addr} {b : Bx} {cf : CF} {k fu : Nat} {X : Cx} (O : Ok tb fd ca b cf k X n5 (defScope (topS 44)) (fun _ => true)) (po : PassesOwn (model X.prog X.w) X.A X.env X.xe) : PSs X (defBody (topS 44)) (rS b (evB cf fu c5.body)) :=
  sb_cons (ss_ret (g_cmp O.eq (rE.toR (g_comp O (own := [("parameter", 2), ("value", 3)]) (i_seq (g_var O)) (fun X O => g_ttup O (g_tcons (g_name O) (g_tcons (g_name O) sgs_nil))) (fun X O => g_one (q_cmp O.ne (rE.toR (g_ix O (g_pk O) (g_pk O))) (g_pk O))) (fun X O => g_int))) (rE.toR (se_lst g_nil)))) sb_nil
/-! _law_tests -/
def n6 : List Str := ["model_here", "rows", "size", "longer", "value", "row", "rule"]
def c6 : Fn := f_law_tests 5
theorem d6 {fd : Nat → FuncData} {ca : Nat → Addr} {b : Bx} {cf : CF} {k fu : Nat} {X : Cx} (O : Ok tb fd ca b cf k X n6 (defScope (topS 45)) (fun _ => true)) (po : PassesOwn (model X.prog X.w) X.A X.env X.xe) : PSs X (defBody (topS 45)) (rS b (evB cf fu c6.body)) :=
  sb_cons (g_set O (se_lst (g_cons (se_tup g_nil) g_nil))) (sb_cons (g_for O po (i_seq (g_ix O (g_pk O) (rE.toR g_int))) (g_name O) (sb_cons (g_setM O (sf_lst g_nil)) (sb_cons (g_for O po (i_range1 O (g_pk O)) (g_name O) (sb_cons (g_ext O (g_comp O (own := [("row", 5)]) (i_seq (g_var O)) (fun X O => g_name O) (fun X O => g_yes) (fun X O => g_add (g_pk O) (rE.toR (se_tup (g_cons (g_var O) g_nil)))))) sb_nil)) (sb_frz (sb_cons (g_set O (g_var O)) sb_nil))))) (sb_cons (ss_ret (g_sorted O (rE.toR (g_comp O (own := [("row", 5)]) (i_seq (g_var O)) (fun X O => g_name O) (fun X O => g_one (q_cmp O.eq (rE.toR (g_comp O (own := [("rule", 6)]) (i_seq (g_ix O (g_pk O) (rE.toR g_int))) (fun X O => g_name O) (fun X O => g_one (q_val O (rE.toR (g_call O (g_cons (g_var O) (g_cons (g_var O) g_nil)))))) (fun X O => g_int))) (rE.toR (se_lst g_nil)))) (fun X O => g_var O))))) sb_nil))
/-! is_ascending -/
def n7 : List Str := ["values", "one", "other"]
def c7 : Fn := f_is_ascending
theorem d7 {fd : Nat → FuncData} {ca : Nat → Addr} {b : Bx} {cf : CF} {k fu : Nat} {X : Cx} (O : Ok tb fd ca b cf k X n7 (defScope (topS 22)) (fun _ => true)) (po : PassesOwn (model X.prog X.w) X.A X.env X.xe) : PSs X (defBody (topS 22)) (rS b (evB cf fu c7.body)) :=
  sb_cons (ss_ret (g_all O (rE.toR (g_comp O (own := [("one", 1), ("other", 2)]) (i_zip O (g_var O) (se_sl (g_pk O) (so_so (rE.toR g_int)) so_no)) (fun X O => g_ttup O (g_tcons (g_name O) (g_tcons (g_name O) sgs_nil))) (fun X O => g_yes) (fun X O => g_cmp O.lt (g_pk O) (g_pk O)))))) sb_nil
/-! is_integer -/
def n8 : List Str := ["value"]
def c8 : Fn := f_is_integer
theorem d8 {fd : Nat → FuncData} {ca : Nat → Addr} {b : Bx} {cf : CF} {k fu : Nat} {X : Cx} (O : Ok tb fd ca b cf k X n8 (defScope (topS 21)) (fun _ => true)) (po : PassesOwn (model X.prog X.w) X.A X.env X.xe) : PSs X (defBody (topS 21)) (rS b (evB cf fu c8.body)) :=
  sb_cons (ss_ret (se_and (rE.toR (g_isint O (g_pk O))) (g_and1 (se_not (rE.toR (g_isbool O (g_pk O))))))) sb_nil
/-! is_pair_of -/
def n9 : List Str := ["sizes", "value", "one"]
def c9 : Fn := f_is_pair_of 8
theorem d9 {fd : Nat → FuncData} {ca : Nat → Addr} {b : Bx} {cf : CF} {k fu : Nat} {X : Cx} (O : Ok tb fd ca b cf k X n9 (defScope (topS 23)) (fun _ => true)) (po : PassesOwn (model X.prog X.w) X.A X.env X.xe) : PSs X (defBody (topS 23)) (rS b (evB cf fu c9.body)) :=
  sb_cons (ss_ife (PW.pt (sw_or (st_not (q_val O (rE.toR (g_istuple O (g_pk O))))) (sw_or (q_cmp O.ne (rE.toR (g_len O (g_pk O))) (rE.toR g_int)) (pw_or1 (st_not (q_val O (rE.toR (g_all O (rE.toR (g_comp O (own := [("one", 2)]) (i_seq (g_var O)) (fun X O => g_name O) (fun X O => g_yes) (fun X O => g_call O (g_cons (g_var O) g_nil)))))))))))) (sb_cons (ss_ret g_fa) sb_nil) sb_nil) (sb_cons (ss_ret (se_and (rE.toR (g_chain O.le O.lt (rE.toR g_int) (rE.toR (g_ix O (g_pk O) (rE.toR g_int))) (rE.toR (g_len O (g_pk O))))) (g_and1 (g_chain O.le O.lt (rE.toR g_int) (rE.toR (g_ix O (g_pk O) (rE.toR g_int))) (rE.toR (g_ix O (g_pk O) (rE.toR (g_ix O (g_pk O) (rE.toR g_int))))))))) sb_nil)
/-! is_combination_of -/
def n10 : List Str := ["sizes", "value", "one"]
def c10 : Fn := f_is_combination_of 7 9
theorem d10 {fd : Nat → FuncData} {ca : Nat → Addr} {b : Bx} {cf : CF} {k fu : Nat} {X : Cx} (O : Ok tb fd ca b cf k X n10 (defScope (topS 24)) (fun _ => true)) (po : PassesOwn (model X.prog X.w) X.A X.env X.xe) : PSs X (defBody (topS 24)) (rS b (evB cf fu c10.body)) :=
  sb_cons (ss_ife (PW.pt (sw_or (st_not (q_val O (rE.toR (g_istuple O (g_pk O))))) (sw_or (q_cmp O.eq (g_pk O) (rE.toR (se_tup g_nil))) (pw_or1 (st_not (q_val O (rE.toR (g_all O (rE.toR (g_comp O (own := [("one", 2)]) (i_seq (g_var O)) (fun X O => g_name O) (fun X O => g_yes) (fun X O => g_call O (g_cons (g_var O) (g_cons (g_var O) g_nil))))))))))))) (sb_cons (ss_ret g_fa) sb_nil) sb_nil) (sb_cons (ss_ret (g_call O (g_cons (g_comp O (own := [("one", 2)]) (i_seq (g_var O)) (fun X O => g_name O) (fun X O => g_yes) (fun X O => g_ix O (g_pk O) (rE.toR g_int))) g_nil))) sb_nil)
/-! is_model -/
def n11 : List Str := ["value", "sizes", "forbidden", "size", "one"]
def c11 : Fn := f_is_model 7 10 8
theorem d11 {fd : Nat → FuncData} {ca : Nat → Addr} {b : Bx} {cf : CF} {k fu : Nat} {X : Cx} (O : Ok tb fd ca b cf k X n11 (defScope (topS 25)) (fun _ => true)) (po : PassesOwn (model X.prog X.w) X.A X.env X.xe) : PSs X (defBody (topS 25)) (rS b (evB cf fu c11.body)) :=
  sb_cons (ss_ife (PW.pt (sw_or (st_not (q_val O (rE.toR (g_istuple O (g_pk O))))) (sw_or (q_cmp O.ne (rE.toR (g_len O (g_pk O))) (rE.toR g_int)) (pw_or1 (st_not (q_val O (rE.toR (g_istuple O (rE.toR (g_ix O (g_pk O) (rE.toR g_int))))))))))) (sb_cons (ss_ret g_fa) sb_nil) sb_nil) (sb_cons (g_unpack (g_var O) (g_ttup O (g_tcons (g_name O) (g_tcons (g_name O) sgs_nil)))) (sb_cons (ss_ife (PW.pt (sw_or (st_not (q_chain O.le O.le (rE.toR g_int) (rE.toR (g_len O (g_pk O))) (rE.toR g_int))) (pw_or1 (st_not (q_val O (rE.toR (g_all O (rE.toR (g_comp O (own := [("size", 3)]) (i_seq (g_var O)) (fun X O => g_name O) (fun X O => g_yes) (fun X O => se_and (rE.toR (g_call O (g_cons (g_var O) g_nil))) (g_and1 (g_chain O.le O.le (rE.toR g_int) (g_pk O) (rE.toR g_int))))))))))))) (sb_cons (ss_ret g_fa) sb_nil) sb_nil) (sb_cons (ss_ife (PW.pt (sw_or (st_not (q_val O (rE.toR (g_istuple O (g_pk O))))) (pw_or1 (q_cmp O.gt (rE.toR (g_len O (g_pk O))) (rE.toR (g_gint O)))))) (sb_cons (ss_ret g_fa) sb_nil) sb_nil) (sb_cons (ss_ret (se_and (rE.toR (g_all O (rE.toR (g_comp O (own := [("one", 4)]) (i_seq (g_var O)) (fun X O => g_name O) (fun X O => g_yes) (fun X O => g_call O (g_cons (g_var O) (g_cons (g_var O) g_nil))))))) (g_and1 (g_call O (g_cons (g_var O) g_nil))))) sb_nil))))
/-! check_model -/
def n12 : List Str := ["model"]
def c12 : Fn := f_check_model 11 0
theorem d12 {fd : Nat → FuncData} {ca : Nat → Addr} {b : Bx} {cf : CF} {k fu : Nat} {X : Cx} (O : Ok tb fd ca b cf k X n12 (defScope (topS 26)) (fun _ => true)) (po : PassesOwn (model X.prog X.w) X.A X.env X.xe) : PSs X (defBody (topS 26)) (rS b (evB cf fu c12.body)) :=
  sb_cons (ss_ife (st_not (q_val O (rE.toR (g_call O (g_cons (g_var O) g_nil))))) (sb_cons (g_raise O) sb_nil) sb_nil) sb_nil
/-! has_all -/
def n13 : List Str := ["test", "combination", "parameter", "value"]
def c13 : Fn := f_has_all
theorem d13 {fd : Nat → FuncData} {ca : Nat → Addr} {b : Bx} {cf : CF} {k fu : Nat} {X : Cx} (O : Ok tb fd ca b cf k X n13 (defScope (topS 28)) (fun _ => true)) (po : PassesOwn (model X.prog X.w) X.A X.env X.xe) : PSs X (defBody (topS 28)) (rS b (evB cf fu c13.body)) :=
  sb_cons (ss_ret (g_all O (rE.toR (g_comp O (own := [("parameter", 2), ("value", 3)]) (i_seq (g_var O)) (fun X O => g_ttup O (g_tcons (g_name O) (g_tcons (g_name O) sgs_nil))) (fun X O => g_yes) (fun X O => g_cmp O.eq (rE.toR (g_ix O (g_pk O) (g_pk O))) (g_pk O)))))) sb_nil
/-! all_tests -/
def n14 : List Str := ["model", "rows", "size", "longer", "row", "value", "rule"]
def c14 : Fn := f_all_tests 13
theorem d14 {fd : Nat → FuncData} {ca : Nat → Addr} {b : Bx} {cf : CF} {k fu : Nat} {X : Cx} (O : Ok tb fd ca b cf k X n14 (defScope (topS 29)) (fun _ => true)) (po : PassesOwn (model X.prog X.w) X.A X.env X.xe) : PSs X (defBody (topS 29)) (rS b (evB cf fu c14.body)) :=
  sb_cons (g_set O (se_lst (g_cons (se_tup g_nil) g_nil))) (sb_cons (g_for O po (i_seq (g_ix O (g_pk O) (rE.toR g_int))) (g_name O) (sb_cons (g_setM O (sf_lst g_nil)) (sb_cons (g_for O po (i_seq (g_var O)) (g_name O) (sb_cons (g_ext O (g_comp O (own := [("value", 5)]) (i_range1 O (g_pk O)) (fun X O => g_name O) (fun X O => g_yes) (fun X O => g_add (g_pk O) (rE.toR (se_tup (g_cons (g_var O) g_nil)))))) sb_nil)) (sb_frz (sb_cons (g_set O (g_var O)) sb_nil))))) (sb_cons (ss_ret (g_comp O (own := [("row", 4)]) (i_seq (g_var O)) (fun X O => g_name O) (fun X O => g_one (st_not (q_val O (rE.toR (g_any O (rE.toR (g_comp O (own := [("rule", 6)]) (i_seq (g_ix O (g_pk O) (rE.toR g_int))) (fun X O => g_name O) (fun X O => g_yes) (fun X O => g_call O (g_cons (g_var O) (g_cons (g_var O) g_nil)))))))))) (fun X O => g_var O))) sb_nil))
/-! projection -/
def n15 : List Str := ["test", "parameters", "parameter"]
def c15 : Fn := f_projection
theorem d15 {fd : Nat → FuncData} {ca : Nat → Addr} {b : Bx} {cf : CF} {k fu : Nat} {X : Cx} (O : Ok tb fd ca b cf k X n15 (defScope (topS 31)) (fun _ => true)) (po : PassesOwn (model X.prog X.w) X.A X.env X.xe) : PSs X (defBody (topS 31)) (rS b (evB cf fu c15.body)) :=
  sb_cons (ss_ret (g_tuple O (rE.toR (g_comp O (own := [("parameter", 2)]) (i_seq (g_var O)) (fun X O => g_name O) (fun X O => g_yes) (fun X O => se_tup (g_cons (g_var O) (g_cons (g_ix O (g_pk O) (g_pk O)) g_nil))))))) sb_nil
/-! subsets -/
def n16 : List Str := ["many", "size", "rows", "turn", "longer", "row", "start", "one"]
def c16 : Fn := f_subsets
theorem d16 {fd : Nat → FuncData} {ca : Nat → Addr} {b : Bx} {cf : CF} {k fu : Nat} {X : Cx} (O : Ok tb fd ca b cf k X n16 (defScope (topS 30)) (fun _ => true)) (po : PassesOwn (model X.prog X.w) X.A X.env X.xe) : PSs X (defBody (topS 30)) (rS b (evB cf fu c16.body)) :=
  sb_cons (g_set O (se_lst (g_cons (se_tup g_nil) g_nil))) (sb_cons (g_for O po (i_range1 O (g_pk O)) (g_name O) (sb_cons (g_setM O (sf_lst g_nil)) (sb_cons (g_for O po (i_seq (g_var O)) (g_name O) (sb_cons (g_set O (se_ite (q_val O (g_pk O)) (g_add (rE.toR (g_ix O (g_pk O) (rE.toR (se_neg (rE.toR g_int))))) (rE.toR g_int)) g_int)) (sb_cons (g_ext O (g_comp O (own := [("one", 7)]) (i_range2 O (g_pk O) (g_pk O)) (fun X O => g_name O) (fun X O => g_yes) (fun X O => g_add (g_pk O) (rE.toR (se_tup (g_cons (g_var O) g_nil)))))) sb_nil))) (sb_frz (sb_cons (g_set O (g_var O)) sb_nil))))) (sb_cons (ss_ret (g_var O)) sb_nil))
/-! projections -/
def n17 : List Str := ["test", "size", "parameters"]
def c17 : Fn := f_projections 15 16
theorem d17 {fd : Nat → FuncData} {ca : Nat → Addr} {b : Bx} {cf : CF} {k fu : Nat} {X : Cx} (O : Ok tb fd ca b cf k X n17 (defScope (topS 32)) (fun _ => true)) (po : PassesOwn (model X.prog X.w) X.A X.env X.xe) : PSs X (defBody (topS 32)) (rS b (evB cf fu c17.body)) :=
  sb_cons (ss_ret (g_comp O (own := [("parameters", 2)]) (i_seq (g_call O (g_cons (g_len O (g_pk O)) (g_cons (g_var O) g_nil)))) (fun X O => g_name O) (fun X O => g_yes) (fun X O => g_call O (g_cons (g_var O) (g_cons (g_var O) g_nil))))) sb_nil
/-! possible_of -/
def n18 : List Str := ["model", "size", "found", "test", "one"]
def c18 : Fn := f_possible_of 14 17
theorem d18 {fd : Nat → FuncData} {ca : Nat → Addr} {b : Bx} {cf : CF} {k fu : Nat} {X : Cx} (O : Ok tb fd ca b cf k X n18 (defScope (topS 35)) (fun _ => true)) (po : PassesOwn (model X.prog X.w) X.A X.env X.xe) : PSs X (defBody (topS 35)) (rS b (evB cf fu c18.body)) :=
  sb_cons (g_setM O sf_dnew) (sb_cons (g_for O po (i_seq (g_call O (g_cons (g_var O) g_nil))) (g_name O) (sb_cons (g_for O po (i_seq (g_call O (g_cons (g_var O) (g_cons (g_var O) g_nil)))) (g_name O) (sb_cons (g_dput O (g_var O) g_tr) sb_nil)) sb_nil)) (sb_frz (sb_cons (ss_ret (g_var O)) sb_nil)))
/-! extensions -/
def n19 : List Str := ["sizes", "combination", "start", "found", "parameter", "value"]
def c19 : Fn := f_extensions
theorem d19 {fd : Nat → FuncData} {ca : Nat → Addr} {b : Bx} {cf : CF} {k fu : Nat} {X : Cx} (O : Ok tb fd ca b cf k X n19 (defScope (topS 36)) (fun _ => true)) (po : PassesOwn (model X.prog X.w) X.A X.env X.xe) : PSs X (defBody (topS 36)) (rS b (evB cf fu c19.body)) :=
  sb_cons (g_par O (m1 := false) (m2 := true) (se_ite (q_val O (g_pk O)) (g_add (rE.toR (g_ix O (rE.toR (g_ix O (g_pk O) (rE.toR (se_neg (rE.toR g_int))))) (rE.toR g_int))) (rE.toR g_int)) g_int) (sf_lst g_nil)) (sb_cons (g_for O po (i_range2 O (g_pk O) (rE.toR (g_len O (g_pk O)))) (g_name O) (sb_cons (g_ext O (g_comp O (own := [("value", 5)]) (i_range1 O (rE.toR (g_ix O (g_pk O) (g_pk O)))) (fun X O => g_name O) (fun X O => g_yes) (fun X O => g_add (g_pk O) (rE.toR (se_tup (g_cons (se_tup (g_cons (g_var O) (g_cons (g_var O) g_nil))) g_nil)))))) sb_nil)) (sb_frz (sb_cons (ss_ret (g_var O)) sb_nil)))
/-! hidden_rules -/
def n20 : List Str := ["model", "found", "smaller", "size", "larger", "one", "other", "parts", "at", "part"]
def c20 : Fn := f_hidden_rules 12 19 18
theorem d20 {fd : Nat → FuncData} {ca : Nat → Addr} {b : Bx} {cf : CF} {k fu : Nat} {X : Cx} (O : Ok tb fd ca b cf k X n20 (defScope (topS 37)) (fun _ => true)) (po : PassesOwn (model X.prog X.w) X.A X.env X.xe) : PSs X (defBody (topS 37)) (rS b (evB cf fu c20.body)) :=
  sb_cons (g_expr (g_call O (g_cons (g_var O) g_nil))) (sb_cons (g_parC O (m1 := true) (m2 := false) (sf_lst g_nil) (g_call O (g_cons (g_var O) (g_cons g_int g_nil)))) (sb_cons (g_for O po (i_range2 O (rE.toR g_int) (rE.toR (g_add (rE.toR (g_len O (rE.toR (g_ix O (g_pk O) (rE.toR g_int))))) (rE.toR g_int)))) (g_name O) (sb_cons (g_set O (g_call O (g_cons (g_var O) (g_cons (g_var O) g_nil)))) (sb_cons (g_for O po (i_seq (g_var O)) (g_name O) (sb_cons (g_for O po (i_seq (g_call O (g_cons (g_ix O (g_pk O) (rE.toR g_int)) (g_cons (g_var O) g_nil)))) (g_name O) (sb_cons (g_setL O (own := [("at", 8)]) (i_range1 O (g_pk O)) (fun X O => g_name O) (fun X O => g_yes) (fun X O => g_add (rE.toR (se_sl (g_pk O) so_no (so_so (g_pk O)))) (rE.toR (se_sl (g_pk O) (so_so (rE.toR (g_add (g_pk O) (rE.toR g_int)))) so_no)))) (sb_cons (ss_ife (PW.pt (sw_and (q_cmp O.notin (g_pk O) (g_pk O)) (pw_and1 (q_val O (rE.toR (g_all O (rE.toR (g_comp O (own := [("part", 9)]) (i_seq (g_var O)) (fun X O => g_name O) (fun X O => g_yes) (fun X O => g_cmp O.isin (g_pk O) (g_pk O)))))))))) (sb_cons (g_app O (g_var O)) sb_nil) sb_nil) sb_nil))) sb_nil)) (sb_cons (g_set O (g_var O)) sb_nil)))) (sb_cons (ss_ret (g_tuple O (rE.toR (g_sorted O (g_pk O))))) sb_nil)))
/-! check_combination -/
def n22 : List Str := ["model", "combination"]
def c22 : Fn := f_check_combination 10 2
theorem d22 {fd : Nat → FuncData} {ca : Nat → Addr} {b : Bx} {cf : CF} {k fu : Nat} {X : Cx} (O : Ok tb fd ca b cf k X n22 (defScope (topS 27)) (fun _ => true)) (po : PassesOwn (model X.prog X.w) X.A X.env X.xe) : PSs X (defBody (topS 27)) (rS b (evB cf fu c22.body)) :=
  sb_cons (ss_ife (st_not (q_val O (rE.toR (g_call O (g_cons (g_ix O (g_pk O) (rE.toR g_int)) (g_cons (g_var O) g_nil)))))) (sb_cons (g_raise O) sb_nil) sb_nil) sb_nil
/-! blocking -/
def n23 : List Str := ["model", "combination", "tests", "size", "indices", "part", "index", "test"]
def c23 : Fn := f_blocking 14 22 12 13 16
theorem d23 {fd : Nat → FuncData} {ca : Nat → Addr} {b : Bx} {cf : CF} {k fu : Nat} {X : Cx} (O : Ok tb fd ca b cf k X n23 (defScope (topS 34)) (fun _ => true)) (po : PassesOwn (model X.prog X.w) X.A X.env X.xe) : PSs X (defBody (topS 34)) (rS b (evB cf fu c23.body)) :=
  sb_cons (g_expr (g_call O (g_cons (g_var O) g_nil))) (sb_cons (g_expr (g_call O (g_cons (g_var O) (g_cons (g_var O) g_nil)))) (sb_cons (g_set O (g_call O (g_cons (g_var O) g_nil))) (sb_cons (g_for O po (i_range1 O (rE.toR (g_add (rE.toR (g_len O (g_pk O))) (rE.toR g_int)))) (g_name O) (sb_cons (g_for O po (i_seq (g_call O (g_cons (g_len O (g_pk O)) (g_cons (g_var O) g_nil)))) (g_name O) (sb_cons (g_set O (g_tuple O (rE.toR (g_comp O (own := [("index", 6)]) (i_seq (g_var O)) (fun X O => g_name O) (fun X O => g_yes) (fun X O => g_ix O (g_pk O) (g_pk O)))))) (sb_cons (ss_ife (st_not (q_val O (rE.toR (g_any O (rE.toR (g_comp O (own := [("test", 7)]) (i_seq (g_var O)) (fun X O => g_name O) (fun X O => g_yes) (fun X O => g_call O (g_cons (g_var O) (g_cons (g_var O) g_nil))))))))) (sb_cons (ss_ret (g_var O)) sb_nil) sb_nil) sb_nil))) sb_nil)) (sb_cons (ss_ret g_none) sb_nil))))
/-! _law_open -/
def n24 : List Str := ["tests", "part", "test"]
def c24 : Fn := f_law_open 5
theorem d24 {fd : Nat → FuncData} {ca : Nat → Addr} {b : Bx} {cf : CF} {k fu : Nat} {X : Cx} (O : Ok tb fd ca b cf k X n24 (defScope (topS 48)) (fun _ => true)) (po : PassesOwn (model X.prog X.w) X.A X.env X.xe) : PSs X (defBody (topS 48)) (rS b (evB cf fu c24.body)) :=
  sb_cons (ss_ret (g_cmp O.ne (rE.toR (g_comp O (own := [("test", 2)]) (i_seq (g_var O)) (fun X O => g_name O) (fun X O => g_one (q_val O (rE.toR (g_call O (g_cons (g_var O) (g_cons (g_var O) g_nil)))))) (fun X O => g_int))) (rE.toR (se_lst g_nil)))) sb_nil
/-! _law_parts -/
def n25 : List Str := ["values", "rows", "one", "row"]
def c25 : Fn := f_law_parts
theorem d25 {fd : Nat → FuncData} {ca : Nat → Addr} {b : Bx} {cf : CF} {k fu : Nat} {X : Cx} (O : Ok tb fd ca b cf k X n25 (defScope (topS 46)) (fun _ => true)) (po : PassesOwn (model X.prog X.w) X.A X.env X.xe) : PSs X (defBody (topS 46)) (rS b (evB cf fu c25.body)) :=
  sb_cons (g_set O (se_lst (g_cons (se_tup g_nil) g_nil))) (sb_cons (g_for O po (i_seq (g_var O)) (g_name O) (sb_cons (g_set O (g_add (g_pk O) (rE.toR (g_comp O (own := [("row", 3)]) (i_seq (g_var O)) (fun X O => g_name O) (fun X O => g_yes) (fun X O => g_add (g_pk O) (rE.toR (se_tup (g_cons (g_var O) g_nil)))))))) sb_nil)) (sb_cons (ss_ret (g_var O)) sb_nil))
/-! law -/
def n26 : List Str := ["script", "town", "k", "model_here", "tests", "due", "one", "parts", "shut", "j", "combination_here", "bad", "first", "results", "value", "at", "part"]
def c26 : Fn := f_law_k05 0 2 4 1 3 24 25 6 23 20
theorem d26 {fd : Nat → FuncData} {ca : Nat → Addr} {b : Bx} {cf : CF} {k fu : Nat} {X : Cx} (O : Ok tb fd ca b cf k X n26 (defScope (topS 49)) (fun _ => true)) (po : PassesOwn (model X.prog X.w) X.A X.env X.xe) (L : LamOk k X b) (G : ResFx tb fd ca b cf k X.K 21 (topS 39) resL) : PSs X (defBody (topS 49)) (rS b (evB cf fu c26.body)) :=
  sb_cons (g_set O (g_call0 O)) (sb_cons (g_for O po (i_range1 O (rE.toR g_int)) (g_name O) (sb_cons (g_set O (g_call O (g_cons (g_var O) (g_cons (g_var O) (g_cons g_int (g_cons g_int (g_cons g_int g_nil))))))) (sb_cons (ss_ife (q_cmp O.eq (rE.toR (g_call O (g_cons (g_var O) (g_cons (g_var O) (g_cons g_int g_nil))))) (rE.toR g_int)) (sb_cons (g_set O (se_tup (g_cons (g_ix O (g_pk O) (rE.toR g_int)) (g_cons (g_tuple O (rE.toR (g_comp O (own := [("value", 14)]) (i_range1 O (rE.toR (g_ix O (rE.toR (g_ix O (g_pk O) (rE.toR g_int))) (rE.toR g_int)))) (fun X O => g_name O) (fun X O => g_yes) (fun X O => se_tup (g_cons (se_tup (g_cons g_int (g_cons (g_var O) g_nil))) g_nil))))) g_nil)))) sb_nil) sb_nil) (sb_cons (g_parC O (m1 := false) (m2 := true) (g_call O (g_cons (g_var O) g_nil)) (sf_lst g_nil)) (sb_cons (g_for O po (i_seq (g_call O (g_cons (g_ix O (g_pk O) (rE.toR g_int)) g_nil))) (g_name O) (sb_cons (g_setL O (own := [("at", 15)]) (i_range1 O (rE.toR (g_len O (g_pk O)))) (fun X O => g_name O) (fun X O => g_yes) (fun X O => g_add (rE.toR (se_sl (g_pk O) so_no (so_so (g_pk O)))) (rE.toR (se_sl (g_pk O) (so_so (rE.toR (g_add (g_pk O) (rE.toR g_int)))) so_no)))) (sb_cons (g_setL O (own := [("part", 16)]) (i_seq (g_var O)) (fun X O => g_name O) (fun X O => g_one (st_not (q_val O (rE.toR (g_call O (g_cons (g_var O) (g_cons (g_var O) g_nil))))))) (fun X O => g_var O)) (sb_cons (ss_ife (PW.pt (sw_and (st_not (q_val O (rE.toR (g_call O (g_cons (g_var O) (g_cons (g_var O) g_nil)))))) (pw_and1 (q_cmp O.eq (g_pk O) (rE.toR (se_lst g_nil)))))) (sb_cons (g_app O (g_var O)) sb_nil) sb_nil) sb_nil)))) (sb_cons (ss_ife (q_cmp O.ne (rE.toR (g_callk0 O (sk_cons (g_var O) sk_nil))) (rE.toR (g_tuple O (rE.toR (g_sorted O (g_pk O)))))) (sb_cons (ss_ret g_fa) sb_nil) sb_nil) (sb_cons (g_for O po (i_range1 O (rE.toR g_int)) (g_name O) (sb_cons (g_set O (g_call O (g_cons (g_var O) (g_cons (g_var O) (g_cons (g_ix O (g_pk O) (rE.toR g_int)) (g_cons g_int g_nil)))))) (sb_cons (g_setL O (own := [("part", 16)]) (i_seq (g_call O (g_cons (g_var O) g_nil))) (fun X O => g_name O) (fun X O => g_one (st_not (q_val O (rE.toR (g_call O (g_cons (g_var O) (g_cons (g_var O) g_nil))))))) (fun X O => g_var O)) (sb_cons (g_set O (se_ite (q_cmp O.eq (g_pk O) (rE.toR (se_lst g_nil))) g_none (g_ix O (rE.toR (g_min O (rE.toR (g_comp O (own := [("part", 16)]) (i_seq (g_var O)) (fun X O => g_name O) (fun X O => g_yes) (fun X O => se_tup (g_cons (g_len O (g_pk O)) (g_cons (g_var O) g_nil))))))) (rE.toR g_int)))) (sb_cons (ss_ife (q_cmp O.ne (rE.toR (g_callk O (g_cons (g_var O) g_nil) (sk_cons (g_var O) sk_nil))) (g_pk O)) (sb_cons (ss_ret g_fa) sb_nil) sb_nil) sb_nil))))) (sb_cons (g_set O (se_lst (g_cons (g_lam O L G (fun X E O => g_call O (g_cons (g_var O) (g_cons (se_tup g_nil) g_nil))) rfl (fun _ _ _ _ _ => rfl)) g_nil))) (sb_cons (ss_ife (q_cmp O.ne (rE.toR (g_add (g_pk O) (rE.toR (se_lst (g_cons (g_lam O L G (fun X E O => g_call O (g_cons (g_var O) (g_cons (se_tup (g_cons (se_tup (g_cons g_int (g_cons g_int g_nil))) g_nil)) g_nil))) rfl (fun _ _ _ _ _ => rfl)) g_nil))))) (rE.toR (g_mul (rE.toR (se_lst (g_cons (se_tup (g_cons g_str g_nil)) g_nil))) (rE.toR g_int)))) (sb_cons (ss_ret g_fa) sb_nil) sb_nil) (sb_cons (g_set O (se_lst (g_cons (g_lam O L G (fun X E O => g_call O (g_cons g_none (g_cons g_none g_nil))) rfl (fun _ _ _ _ _ => rfl)) g_nil))) (sb_cons (ss_ife (q_cmp O.ne (rE.toR (g_add (g_pk O) (rE.toR (se_lst (g_cons (g_lam O L G (fun X E O => g_call O (g_cons (se_lst g_nil) g_nil)) rfl (fun _ _ _ _ _ => rfl)) g_nil))))) (rE.toR (g_mul (rE.toR (se_lst (g_cons (se_tup (g_cons g_str g_nil)) g_nil))) (rE.toR g_int)))) (sb_cons (ss_ret g_fa) sb_nil) sb_nil) sb_nil))))))))))) (sb_cons (ss_ret g_tr) sb_nil))
def n_draw : List Str := ["script", "town", "many", "at", "rest", "number"]
theorem p_draw {fd : Nat → FuncData} {ca : Nat → Addr} {b : Bx} {cf : CF} {k : Nat} {X : Cx} (O : Ok tb fd ca b cf k X n_draw (defScope (topS 40)) (fun _ => true)) : PSs X (defBody (topS 40)) (t_draw X.K) :=
  pss_cons (ps_dput O.u1 (v_ O) pe_str (pe_op op_add (pe_dget O.u1 (v_ O) pe_str (fun _ _ => rfl)) pe_int) (swaps_no rfl))
  (pss_cons (as_ O (pe_ifExp (pt_truth (v_ O) (fun _ => rfl)) (pe_op op_mod (pe_dget O.u1 (v_ O) pe_str (fun _ _ => rfl)) (len_ O (v_ O))) pe_int))
  (pss_cons (as_ O (pe_dget2 O.u1 (pe_dget O.u1 (v_ O) pe_str (fun _ _ => rfl)) (v_ O) (pe_ifExp (pt_truth (v_ O) (fun _ => rfl)) (pe_ix ix_list (v_ O) (v_ O) (fun _ _ => rfl)) pe_int) ⟨rfl, rfl, rfl, rfl⟩))
  (pss_cons (ps_if (pt_cmpR op_ge (v_ O) (pe_op op_pow pe_int pe_int) (nomark _)) (pss_cons (ps_dput O.u1 (pe_dget O.u1 (v_ O) pe_str (fun _ _ => rfl)) (v_ O) (pe_op op_fdiv (v_ O) (v_ O)) (swaps_no rfl)) (pss_one (ps_ret (pe_op op_mod (v_ O) (v_ O))))) pss_nil)
  (pss_cons (as_ O (pe_op op_mod (pe_op op_add (v_ O) (pe_op op_mul pe_int (pe_dget O.u1 (v_ O) pe_str (fun _ _ => rfl)))) pe_int))
  (pss_cons (as_ O (pe_op op_mod (pe_op op_pow (v_ O) pe_int) pe_int))
  (pss_one (ps_ret (pe_op op_mod (pe_op op_fdiv (pe_op op_mod (pe_op op_add (pe_op op_mul (pe_op op_fdiv (v_ O) pe_int) pe_int) (v_ O)) pe_int) pe_int) (v_ O)))))))))
theorem p_begun {fd : Nat → FuncData} {ca : Nat → Addr} {b : Bx} {cf : CF} {k : Nat} {X : Cx} (O : Ok tb fd ca b cf k X [] (defScope (topS 41)) (fun _ => true)) : PSs X (defBody (topS 41)) t_begun := pss_one (ps_ret (pe_disp (pps_cons pe_str pe_int (pps_cons pe_str pe_dnewK pps_nil)) rfl rfl (by intro h; cases h) (by decide)))
theorem p_result {fd : Nat → FuncData} {ca : Nat → Addr} {b : Bx} {cf : CF} {k : Nat} {Z : Cx} (O : Ok tb fd ca b cf k Z nRes (defScope (topS 39)) (fun _ => true)) (hs : Z.stack = Z.env :: Z.outer) (hf : Z.env.frame = some Z.env.locals) (hex : Z.ex = []) (act : WX → TE) (ha : ∀ (W : WX) (pn : List (Addr × Obj)) (xe : Value → Shared → Prop) (p1 p2 : Pos), Takes (Z.tr pn xe) W → PE (Z.tr pn xe) (.Call (.Name "call" p1) [] [] p2) (act W)) : PSs Z (defBody (topS 39)) (t_result Z.K (fun y => ca (resL.idxOf y)) (ca 17) act) :=
  pss_cons (nones_ O)
  (pss_cons (try_ O hs hf hex (tb := fun W => tAsg (act W) (gName 2)) (fun W pn xe tk _ => pss_one (asT_ O (ha W pn xe _ _ tk))) (fun a oe cls pn => pss_one (asS_ O)))
  (pss_cons (ps_if (pt_cmpR op_isN (v_ O) pe_non (nomark _)) (pss_one (ps_ret (pe_tup (pa_cons pe_str (pa_cons (v_ O) pa_nil))))) pss_nil)
  (pss_cons (as_ O (pe_disp (pps_cons pe_str (isx_ O) (pps_cons pe_str (isx_ O) pps_nil)) rfl rfl (by intro h; cases h) (by decide)))
  (pss_cons (ps_expr (pe_upd (v_ O) (pe_disp (pps_cons pe_str (isx_ O) (pps_cons pe_str (isx_ O) pps_nil)) rfl rfl (by intro h; cases h) (by decide)) ⟨rfl, rfl, rfl, rfl⟩))
  (pss_cons (ps_expr (pe_upd (v_ O) (pe_disp (pps_cons pe_str (isx_ O) (pps_cons pe_str (isx_ O) pps_nil)) rfl rfl (by intro h; cases h) (by decide)) ⟨rfl, rfl, rfl, rfl⟩))
  (pss_cons (ps_expr (pe_upd (v_ O) (pe_disp (pps_cons pe_str (isx_ O) (pps_cons pe_str (isx_ O) pps_nil)) rfl rfl (by intro h; cases h) (by decide)) ⟨rfl, rfl, rfl, rfl⟩))
  (pss_cons (ps_expr (pe_upd (v_ O) (pe_disp (pps_cons pe_str (isx_ O) (pps_cons pe_str (isx_ O) pps_nil)) rfl rfl (by intro h; cases h) (by decide)) ⟨rfl, rfl, rfl, rfl⟩))
  (pss_cons (ps_expr (pe_upd (v_ O) (pe_disp (pps_cons pe_str (isx_ O) (pps_cons pe_str (isx_ O) pps_nil)) rfl rfl (by intro h; cases h) (by decide)) ⟨rfl, rfl, rfl, rfl⟩))
  (pss_cons (ps_expr (pe_upd (v_ O) (pe_disp (pps_cons pe_str (isx_ O) (pps_cons pe_str (isx_ O) pps_nil)) rfl rfl (by intro h; cases h) (by decide)) ⟨rfl, rfl, rfl, rfl⟩))
  (pss_cons (ps_expr (pe_upd (v_ O) (pe_disp (pps_cons pe_str (isx_ O) (pps_cons pe_str (isx_ O) pps_nil)) rfl rfl (by intro h; cases h) (by decide)) ⟨rfl, rfl, rfl, rfl⟩))
  (pss_cons (ps_expr (pe_upd (v_ O) (pe_disp (pps_cons pe_str (isx_ O) pps_nil) rfl rfl (by intro h; cases h) (by decide)) ⟨rfl, rfl, rfl, rfl⟩))
  (pss_cons (names_ O)
  (pss_one (ps_ret (pe_ifExp (PW.pt (pw_and (pt_cmpR op_eq (len_ O (v_ O)) pe_int (nomark _)) (pw_and1 (pt_val (isv_ O))))) (pe_tup (pa_cons (pe_ix ix_list (v_ O) pe_int (fun _ _ => rfl)) pa_nil)) (pe_tup (pa_cons pe_str pa_nil)))))))))))))))))
def fs (ns : List Int) : List Def := [.prim begunP, .prim (drawP ns), .code c2, .code c3, .code c4, .code c5, .code c6, .code c7, .code c8, .code c9, .code c10, .code c11, .code c12, .code c13, .code c14, .code c15, .code c16, .code c17, .code c18, .code c19, .code c20, .prim (fun _ => bad), .code c22, .code c23, .code c24, .code c25, .code c26]
def lawI : Nat := 26
def pl : List Nat := [41, 40, 42, 43, 47, 44, 45, 22, 21, 23, 24, 25, 26, 28, 29, 31, 30, 32, 35, 36, 37, 39, 27, 34, 48, 46, 49]
theorem b0 {K : PySem.W.Frag} {f : Addr} {fd : FuncData} (F : FunD K "_law_begun" "_law_begun" (defArgs (topS 41)) (defBody (topS 41)) (defScope (topS 41)) [] [] f fd) : Binds K fd [] [] := F.bindsN fun _ _ _ _ _ _ us hl => match us, hl with | [], _ => rfl
theorem b1 {K : PySem.W.Frag} {f : Addr} {fd : FuncData} (F : FunD K "_law_draw" "_law_draw" (defArgs (topS 40)) (defBody (topS 40)) (defScope (topS 40)) [] [] f fd) : Binds K fd ["script", "town", "many"] [] := F.bindsN fun _ _ _ _ _ _ us hl => match us, hl with | [_, _, _], _ => rfl
theorem b2 {K : PySem.W.Frag} {f : Addr} {fd : FuncData} (F : FunD K "_law_combination" "_law_combination" (defArgs (topS 42)) (defBody (topS 42)) (defScope (topS 42)) [] [] f fd) : Binds K fd ["script", "town", "sizes", "most"] [] := F.bindsN fun _ _ _ _ _ _ us hl => match us, hl with | [_, _, _, _], _ => rfl
theorem b3 {K : PySem.W.Frag} {f : Addr} {fd : FuncData} (F : FunD K "_law_model" "_law_model" (defArgs (topS 43)) (defBody (topS 43)) (defScope (topS 43)) [] [] f fd) : Binds K fd ["script", "town", "many", "values", "rules"] [] := F.bindsN fun _ _ _ _ _ _ us hl => match us, hl with | [_, _, _, _, _], _ => rfl
theorem b4 {K : PySem.W.Frag} {f : Addr} {fd : FuncData} (F : FunD K "_law_combinations" "_law_combinations" (defArgs (topS 47)) (defBody (topS 47)) (defScope (topS 47)) [] [] f fd) : Binds K fd ["sizes"] [] := F.bindsN fun _ _ _ _ _ _ us hl => match us, hl with | [_], _ => rfl
theorem b5 {K : PySem.W.Frag} {f : Addr} {fd : FuncData} (F : FunD K "_law_has" "_law_has" (defArgs (topS 44)) (defBody (topS 44)) (defScope (topS 44)) [] [] f fd) : Binds K fd ["test", "combination_here"] [] := F.bindsN fun _ _ _ _ _ _ us hl => match us, hl with | [_, _], _ => rfl
theorem b6 {K : PySem.W.Frag} {f : Addr} {fd : FuncData} (F : FunD K "_law_tests" "_law_tests" (defArgs (topS 45)) (defBody (topS 45)) (defScope (topS 45)) [] [] f fd) : Binds K fd ["model_here"] [] := F.bindsN fun _ _ _ _ _ _ us hl => match us, hl with | [_], _ => rfl
theorem b7 {K : PySem.W.Frag} {f : Addr} {fd : FuncData} (F : FunD K "is_ascending" "is_ascending" (defArgs (topS 22)) (defBody (topS 22)) (defScope (topS 22)) [] [] f fd) : Binds K fd ["values"] [] := F.bindsN fun _ _ _ _ _ _ us hl => match us, hl with | [_], _ => rfl
theorem b8 {K : PySem.W.Frag} {f : Addr} {fd : FuncData} (F : FunD K "is_integer" "is_integer" (defArgs (topS 21)) (defBody (topS 21)) (defScope (topS 21)) [] [] f fd) : Binds K fd ["value"] [] := F.bindsN fun _ _ _ _ _ _ us hl => match us, hl with | [_], _ => rfl
theorem b9 {K : PySem.W.Frag} {f : Addr} {fd : FuncData} (F : FunD K "is_pair_of" "is_pair_of" (defArgs (topS 23)) (defBody (topS 23)) (defScope (topS 23)) [] [] f fd) : Binds K fd ["sizes", "value"] [] := F.bindsN fun _ _ _ _ _ _ us hl => match us, hl with | [_, _], _ => rfl
theorem b10 {K : PySem.W.Frag} {f : Addr} {fd : FuncData} (F : FunD K "is_combination_of" "is_combination_of" (defArgs (topS 24)) (defBody (topS 24)) (defScope (topS 24)) [] [] f fd) : Binds K fd ["sizes", "value"] [] := F.bindsN fun _ _ _ _ _ _ us hl => match us, hl with | [_, _], _ => rfl
theorem b11 {K : PySem.W.Frag} {f : Addr} {fd : FuncData} (F : FunD K "is_model" "is_model" (defArgs (topS 25)) (defBody (topS 25)) (defScope (topS 25)) [] [] f fd) : Binds K fd ["value"] [] := F.bindsN fun _ _ _ _ _ _ us hl => match us, hl with | [_], _ => rfl
theorem b12 {K : PySem.W.Frag} {f : Addr} {fd : FuncData} (F : FunD K "check_model" "check_model" (defArgs (topS 26)) (defBody (topS 26)) (defScope (topS 26)) [] [] f fd) : Binds K fd ["model"] [] := F.bindsN fun _ _ _ _ _ _ us hl => match us, hl with | [_], _ => rfl
theorem b13 {K : PySem.W.Frag} {f : Addr} {fd : FuncData} (F : FunD K "has_all" "has_all" (defArgs (topS 28)) (defBody (topS 28)) (defScope (topS 28)) [] [] f fd) : Binds K fd ["test", "combination"] [] := F.bindsN fun _ _ _ _ _ _ us hl => match us, hl with | [_, _], _ => rfl
theorem b14 {K : PySem.W.Frag} {f : Addr} {fd : FuncData} (F : FunD K "all_tests" "all_tests" (defArgs (topS 29)) (defBody (topS 29)) (defScope (topS 29)) [] [] f fd) : Binds K fd ["model"] [] := F.bindsN fun _ _ _ _ _ _ us hl => match us, hl with | [_], _ => rfl
theorem b15 {K : PySem.W.Frag} {f : Addr} {fd : FuncData} (F : FunD K "projection" "projection" (defArgs (topS 31)) (defBody (topS 31)) (defScope (topS 31)) [] [] f fd) : Binds K fd ["test", "parameters"] [] := F.bindsN fun _ _ _ _ _ _ us hl => match us, hl with | [_, _], _ => rfl
theorem b16 {K : PySem.W.Frag} {f : Addr} {fd : FuncData} (F : FunD K "subsets" "subsets" (defArgs (topS 30)) (defBody (topS 30)) (defScope (topS 30)) [] [] f fd) : Binds K fd ["many", "size"] [] := F.bindsN fun _ _ _ _ _ _ us hl => match us, hl with | [_, _], _ => rfl
theorem b17 {K : PySem.W.Frag} {f : Addr} {fd : FuncData} (F : FunD K "projections" "projections" (defArgs (topS 32)) (defBody (topS 32)) (defScope (topS 32)) [] [] f fd) : Binds K fd ["test", "size"] [] := F.bindsN fun _ _ _ _ _ _ us hl => match us, hl with | [_, _], _ => rfl
theorem b18 {K : PySem.W.Frag} {f : Addr} {fd : FuncData} (F : FunD K "possible_of" "possible_of" (defArgs (topS 35)) (defBody (topS 35)) (defScope (topS 35)) [] [] f fd) : Binds K fd ["model", "size"] [] := F.bindsN fun _ _ _ _ _ _ us hl => match us, hl with | [_, _], _ => rfl
theorem b19 {K : PySem.W.Frag} {f : Addr} {fd : FuncData} (F : FunD K "extensions" "extensions" (defArgs (topS 36)) (defBody (topS 36)) (defScope (topS 36)) [] [] f fd) : Binds K fd ["sizes", "combination"] [] := F.bindsN fun _ _ _ _ _ _ us hl => match us, hl with | [_, _], _ => rfl
theorem b20 {K : PySem.W.Frag} {f : Addr} {fd : FuncData} (F : FunD K "hidden_rules" "hidden_rules" (defArgs (topS 37)) (defBody (topS 37)) (defScope (topS 37)) [] [] f fd) : Binds K fd ["model"] [] := F.bindsN fun _ _ _ _ _ _ us hl => match us, hl with | [_], _ => rfl
theorem b21 {K : PySem.W.Frag} {f : Addr} {fd : FuncData} (F : FunD K "_law_result" "_law_result" (defArgs (topS 39)) (defBody (topS 39)) (defScope (topS 39)) [] [] f fd) : Binds K fd ["call"] [] := F.bindsN fun _ _ _ _ _ _ us hl => match us, hl with | [_], _ => rfl
theorem b22 {K : PySem.W.Frag} {f : Addr} {fd : FuncData} (F : FunD K "check_combination" "check_combination" (defArgs (topS 27)) (defBody (topS 27)) (defScope (topS 27)) [] [] f fd) : Binds K fd ["model", "combination"] [] := F.bindsN fun _ _ _ _ _ _ us hl => match us, hl with | [_, _], _ => rfl
theorem b23 {K : PySem.W.Frag} {f : Addr} {fd : FuncData} (F : FunD K "blocking" "blocking" (defArgs (topS 34)) (defBody (topS 34)) (defScope (topS 34)) [] [] f fd) : Binds K fd ["model", "combination"] [] := F.bindsN fun _ _ _ _ _ _ us hl => match us, hl with | [_, _], _ => rfl
theorem b24 {K : PySem.W.Frag} {f : Addr} {fd : FuncData} (F : FunD K "_law_open" "_law_open" (defArgs (topS 48)) (defBody (topS 48)) (defScope (topS 48)) [] [] f fd) : Binds K fd ["tests", "part"] [] := F.bindsN fun _ _ _ _ _ _ us hl => match us, hl with | [_, _], _ => rfl
theorem b25 {K : PySem.W.Frag} {f : Addr} {fd : FuncData} (F : FunD K "_law_parts" "_law_parts" (defArgs (topS 46)) (defBody (topS 46)) (defScope (topS 46)) [] [] f fd) : Binds K fd ["values"] [] := F.bindsN fun _ _ _ _ _ _ us hl => match us, hl with | [_], _ => rfl
theorem b26 {K : PySem.W.Frag} {f : Addr} {fd : FuncData} (F : FunD K "law" "law" (defArgs (topS 49)) (defBody (topS 49)) (defScope (topS 49)) [] [] f fd) : Binds K fd ["script"] [] := F.bindsN fun _ _ _ _ _ _ us hl => match us, hl with | [_], _ => rfl
theorem kb20_0 {K : PySem.W.Frag} {f : Addr} {fd : FuncData} (F : FunD K "hidden_rules" "hidden_rules" (defArgs (topS 37)) (defBody (topS 37)) (defScope (topS 37)) [] [] f fd) : KB K fd ["model"] 0 := kb_of F fun kV doc pm an cdv ct us ws h1 h2 => match us, ws, h1, h2 with | [], [_], _, _ => rfl
theorem kb23_1 {K : PySem.W.Frag} {f : Addr} {fd : FuncData} (F : FunD K "blocking" "blocking" (defArgs (topS 34)) (defBody (topS 34)) (defScope (topS 34)) [] [] f fd) : KB K fd ["model", "combination"] 1 := kb_of F fun kV doc pm an cdv ct us ws h1 h2 => match us, ws, h1, h2 with | [_], [_], _, _ => rfl
section
variable {P : Program} {w : World} {K : PySem.W.Frag} {mg : Str → Option Value} {base : Heap}
def lam : List Str := ["law"]
theorem step {fd : Nat → FuncData} {ca : Nat → Addr} {z : Zt} {cl : Nat → Value} {ns : List Int} {fu : Nat} (hK : z.K = K) (hns : z.ns = ns) (hw : z.wd = w) (RC : ∀ j ∈ resL, ResC K (fun y => ca (resL.idxOf y)) (ca 17) j) (LT : ∀ p ∈ (tfL lam).map (He.cT K), LamX.TabB base mg p.1 p.2) (htb : z.tb = tbK K lam) (hfa : ∀ j, z.fa j = He.ga K (tb.nm j)) (A0 : Fx tb fd ca z cl K mg)
    (F : ∀ j, j < tb.fn.length → FunD K (tb.nm j) (tb.nm j) (defArgs (topS (pl.getD j 0))) (defBody (topS (pl.getD j 0))) (defScope (topS (pl.getD j 0))) [] [] (z.fa j) (fd j)) (n : Nat)
    (IH : ∀ i, i < tb.fn.length → FnOk P w K mg base (L2.CX P w) (3 * n) (z.fa i) (fd i) (tb.ps i) (spF z cl (callN (fs ns) fu n i) (tb.ps i).length)) :
    ∀ j, j < tb.fn.length → ∀ d, (fs ns)[j]? = some d → FnOk P w K mg base (L2.CX P w) (3 * n + 3) (z.fa j) (fd j) (tb.ps j) (spF z cl (callD (callN (fs ns) fu n) fu d) (tb.ps j).length)
  | 0, hj, d, e => by
    cases (Option.some.inj e)
    exact prim_ok hw A0 IH (F 0 hj) (N := []) (ps := []) (by decide +kernel) (fun X b e O _ => p_begun O) (fun vs H Q E h => begun_read _ h)
  | 1, hj, d, e => by
    cases (Option.some.inj e)
    exact prim_ok hw A0 IH (F 1 hj) (N := n_draw) (ps := ["script", "town", "many"]) (by decide +kernel) (fun X b e O _ => e ▸ p_draw O) (fun vs H Q E h => draw_read _ rfl hK (hns.symm ▸ h))
  | 2, hj, d, e => by
    cases (Option.some.inj e)
    exact def_ok hw A0 IH (F 2 hj) (N := n2) (ps := ["script", "town", "sizes", "most"]) (fn := c2) (by decide +kernel) fun X b ez ec O po => d2 O po
  | 3, hj, d, e => by
    cases (Option.some.inj e)
    exact def_ok hw A0 IH (F 3 hj) (N := n3) (ps := ["script", "town", "many", "values", "rules"]) (fn := c3) (by decide +kernel) fun X b ez ec O po => d3 O po
  | 4, hj, d, e => by
    cases (Option.some.inj e)
    exact def_ok hw A0 IH (F 4 hj) (N := n4) (ps := ["sizes"]) (fn := c4) (by decide +kernel) fun X b ez ec O po => d4 O po
  | 5, hj, d, e => by
    cases (Option.some.inj e)
    exact def_ok hw A0 IH (F 5 hj) (N := n5) (ps := ["test", "combination_here"]) (fn := c5) (by decide +kernel) fun X b ez ec O po => d5 O po
  | 6, hj, d, e => by
    cases (Option.some.inj e)
    exact def_ok hw A0 IH (F 6 hj) (N := n6) (ps := ["model_here"]) (fn := c6) (by decide +kernel) fun X b ez ec O po => d6 O po
  | 7, hj, d, e => by
    cases (Option.some.inj e)
    exact def_ok hw A0 IH (F 7 hj) (N := n7) (ps := ["values"]) (fn := c7) (by decide +kernel) fun X b ez ec O po => d7 O po
  | 8, hj, d, e => by
    cases (Option.some.inj e)
    exact def_ok hw A0 IH (F 8 hj) (N := n8) (ps := ["value"]) (fn := c8) (by decide +kernel) fun X b ez ec O po => d8 O po
  | 9, hj, d, e => by
    cases (Option.some.inj e)
    exact def_ok hw A0 IH (F 9 hj) (N := n9) (ps := ["sizes", "value"]) (fn := c9) (by decide +kernel) fun X b ez ec O po => d9 O po
  | 10, hj, d, e => by
    cases (Option.some.inj e)
    exact def_ok hw A0 IH (F 10 hj) (N := n10) (ps := ["sizes", "value"]) (fn := c10) (by decide +kernel) fun X b ez ec O po => d10 O po
  | 11, hj, d, e => by
    cases (Option.some.inj e)
    exact def_ok hw A0 IH (F 11 hj) (N := n11) (ps := ["value"]) (fn := c11) (by decide +kernel) fun X b ez ec O po => d11 O po
  | 12, hj, d, e => by
    cases (Option.some.inj e)
    exact def_ok hw A0 IH (F 12 hj) (N := n12) (ps := ["model"]) (fn := c12) (by decide +kernel) fun X b ez ec O po => d12 O po
  | 13, hj, d, e => by
    cases (Option.some.inj e)
    exact def_ok hw A0 IH (F 13 hj) (N := n13) (ps := ["test", "combination"]) (fn := c13) (by decide +kernel) fun X b ez ec O po => d13 O po
  | 14, hj, d, e => by
    cases (Option.some.inj e)
    exact def_ok hw A0 IH (F 14 hj) (N := n14) (ps := ["model"]) (fn := c14) (by decide +kernel) fun X b ez ec O po => d14 O po
  | 15, hj, d, e => by
    cases (Option.some.inj e)
    exact def_ok hw A0 IH (F 15 hj) (N := n15) (ps := ["test", "parameters"]) (fn := c15) (by decide +kernel) fun X b ez ec O po => d15 O po
  | 16, hj, d, e => by
    cases (Option.some.inj e)
    exact def_ok hw A0 IH (F 16 hj) (N := n16) (ps := ["many", "size"]) (fn := c16) (by decide +kernel) fun X b ez ec O po => d16 O po
  | 17, hj, d, e => by
    cases (Option.some.inj e)
    exact def_ok hw A0 IH (F 17 hj) (N := n17) (ps := ["test", "size"]) (fn := c17) (by decide +kernel) fun X b ez ec O po => d17 O po
  | 18, hj, d, e => by
    cases (Option.some.inj e)
    exact def_ok hw A0 IH (F 18 hj) (N := n18) (ps := ["model", "size"]) (fn := c18) (by decide +kernel) fun X b ez ec O po => d18 O po
  | 19, hj, d, e => by
    cases (Option.some.inj e)
    exact def_ok hw A0 IH (F 19 hj) (N := n19) (ps := ["sizes", "combination"]) (fn := c19) (by decide +kernel) fun X b ez ec O po => d19 O po
  | 20, hj, d, e => by
    cases (Option.some.inj e)
    exact def_ok hw A0 IH (F 20 hj) (N := n20) (ps := ["model"]) (fn := c20) (by decide +kernel) fun X b ez ec O po => d20 O po
  | 21, hj, d, e => by
    cases (Option.some.inj e)
    exact fn_bad fun _ _ => rfl
  | 22, hj, d, e => by
    cases (Option.some.inj e)
    exact def_ok hw A0 IH (F 22 hj) (N := n22) (ps := ["model", "combination"]) (fn := c22) (by decide +kernel) fun X b ez ec O po => d22 O po
  | 23, hj, d, e => by
    cases (Option.some.inj e)
    exact def_ok hw A0 IH (F 23 hj) (N := n23) (ps := ["model", "combination"]) (fn := c23) (by decide +kernel) fun X b ez ec O po => d23 O po
  | 24, hj, d, e => by
    cases (Option.some.inj e)
    exact def_ok hw A0 IH (F 24 hj) (N := n24) (ps := ["tests", "part"]) (fn := c24) (by decide +kernel) fun X b ez ec O po => d24 O po
  | 25, hj, d, e => by
    cases (Option.some.inj e)
    exact def_ok hw A0 IH (F 25 hj) (N := n25) (ps := ["values"]) (fn := c25) (by decide +kernel) fun X b ez ec O po => d25 O po
  | 26, hj, d, e => by
    cases (Option.some.inj e)
    exact def_okL hw A0 IH (F 26 hj) (N := n26) (ps := ["script"]) (fn := c26) (by decide +kernel) (htb ▸ lamT (lam := lam) (i := 0) rfl (F 26 hj) (hfa 26) LT) fun X b ez ec eK O po L => d26 O po L (eK ▸ resFx_of A0 ez ec rfl (F 21 (by decide)) (by decide +kernel) (fun j hj => ⟨_, List.getElem?_eq_getElem (show j < 18 by omega)⟩) (fun Z b2 act O hs hf hex ha => p_result O hs hf hex act ha) RC)
  | j + 27, hj, d, e => absurd hj (by show ¬ (j + 27 < 27); omega)
end
theorem binds {K : PySem.W.Frag} {z : Zt} {fd : Nat → FuncData} (F : ∀ j, j < tb.fn.length → FunD K (tb.nm j) (tb.nm j) (defArgs (topS (pl.getD j 0))) (defBody (topS (pl.getD j 0))) (defScope (topS (pl.getD j 0))) [] [] (z.fa j) (fd j)) : ∀ j, j < tb.fn.length → Binds K (fd j) (tb.ps j) []
  | 0, hj => b0 (F 0 hj)
  | 1, hj => b1 (F 1 hj)
  | 2, hj => b2 (F 2 hj)
  | 3, hj => b3 (F 3 hj)
  | 4, hj => b4 (F 4 hj)
  | 5, hj => b5 (F 5 hj)
  | 6, hj => b6 (F 6 hj)
  | 7, hj => b7 (F 7 hj)
  | 8, hj => b8 (F 8 hj)
  | 9, hj => b9 (F 9 hj)
  | 10, hj => b10 (F 10 hj)
  | 11, hj => b11 (F 11 hj)
  | 12, hj => b12 (F 12 hj)
  | 13, hj => b13 (F 13 hj)
  | 14, hj => b14 (F 14 hj)
  | 15, hj => b15 (F 15 hj)
  | 16, hj => b16 (F 16 hj)
  | 17, hj => b17 (F 17 hj)
  | 18, hj => b18 (F 18 hj)
  | 19, hj => b19 (F 19 hj)
  | 20, hj => b20 (F 20 hj)
  | 21, hj => b21 (F 21 hj)
  | 22, hj => b22 (F 22 hj)
  | 23, hj => b23 (F 23 hj)
  | 24, hj => b24 (F 24 hj)
  | 25, hj => b25 (F 25 hj)
  | 26, hj => b26 (F 26 hj)
  | j + 27, hj => absurd hj (by show ¬ (j + 27 < 27); omega)
theorem kbs {K : PySem.W.Frag} {z : Zt} {fd : Nat → FuncData} (F : ∀ j, j < tb.fn.length → FunD K (tb.nm j) (tb.nm j) (defArgs (topS (pl.getD j 0))) (defBody (topS (pl.getD j 0))) (defScope (topS (pl.getD j 0))) [] [] (z.fa j) (fd j)) (j n : Nat) (h : (j, n) ∈ tb.kb) : KB K (fd j) (tb.ps j) n := by
  simp only [tb, List.mem_cons, List.not_mem_nil, or_false, Prod.mk.injEq] at h
  rcases h with ⟨rfl, rfl⟩ | ⟨rfl, rfl⟩
  · exact kb20_0 (F 20 (by decide))
  · exact kb23_1 (F 23 (by decide))
abbrev rowR : PySem.W.OpenRow := PySem.W.OpenLaw.row PySem.Challenge.rw_faultcover_k05_blocking
abbrev hk : PySem.W.Hook := He.hookX 4 (faL tb) (fnL topS tb pl) [] (tfL lam) (exK lam tb.ex true)
def ob (s : PySem.W.SharedT) : He.AlX := He.obsX 4 (faL tb) (fnL topS tb pl) [] (tfL lam) (exK lam tb.ex true) (HandSHeadRun.getT s)
theorem ob_eq (s : PySem.W.SharedT) : ob s = hk.obs s.abs := He.obsX_eq (HandSHeadRun.getT_eq s)
def loose0 : List Str := ["__name__", "TestError", "InvalidModel", "InvalidTest", "InvalidCombination", "InvalidSuite", "InvalidStrength", "InvalidHypothesis", "InvalidResults", "InvalidNumber", "InvalidIndex", "InvalidText", "TooLarge", "TooMany", "Unexplained", "Contradiction", "Same", "InUse", "NothingToUndo", "RULES"]
def loose1 : List Str := ["is_integer", "is_ascending", "is_pair_of", "is_combination_of", "is_model", "check_model", "check_combination", "has_all", "all_tests", "subsets", "projection", "projections", "blocking", "possible_of", "extensions", "hidden_rules", "_law_result", "_law_draw", "_law_begun", "_law_combination"]
def loose2 : List Str := ["_law_model", "_law_has", "_law_tests", "_law_parts", "_law_combinations", "_law_open"]
def loose : List Str := loose0 ++ loose1 ++ loose2
set_option maxHeartbeats 0 in
theorem run (w : World) : HandSHeadRun.RunEq rowR (PySem.W.view rowR.prog [49]) hk ob 12000 loose w := by
  intro os
  kernel_rfl
/-- the law's def answers as the evaluator says -/
theorem law_fn {w : World} {K : PySem.W.Frag} {mg : Str → Option Value} {h : Heap} {f : Addr} (X : K.In h) (G : h.Ns mainGlobals mg) (hf : mg ("law" : Str) = some (.ref f)) (c : He.SaysD (faL tb) (fnL topS tb pl) K) (RB : resB tb.ex K = true) (fu lv : Nat) :
    ∃ fd : FuncData, (∀ (s : Shared) (v : Value), BindsTo s fd ⟨[v], []⟩ [("script", v)]) ∧ ∃ (fa : Nat → Addr) (cl : Nat → Value), ∀ (ns : List Int) (a : Addr) (base : Heap), (∀ p ∈ (tfL lam).map (He.cT K), LamX.TabB base mg p.1 p.2) → FnOk (PySem.Challenge.rw_faultcover_k05_blocking).prog w K mg base (L2.CX (PySem.Challenge.rw_faultcover_k05_blocking).prog w) (3 * lv) f fd ["script"] (spF ⟨fa, K, a, ns, tbK K lam, w⟩ cl (callN (fs ns) fu lv lawI) 1) := by
  have hx : ∀ j, ∃ fd, j < tb.fn.length → FunD K (tb.nm j) (tb.nm j) (defArgs (topS (pl.getD j 0))) (defBody (topS (pl.getD j 0))) (defScope (topS (pl.getD j 0))) [] [] (He.ga K (tb.nm j)) fd := fun j => by
    by_cases hj : j < tb.fn.length
    · obtain ⟨fd, F⟩ := says_fn (by rfl) c j hj
      exact ⟨fd, fun _ => F⟩
    · exact ⟨PySem.W.fnOf "" "" (defArgs (topS 0)) [] (defScope (topS 0)) .none .none .none .none none .none .none, fun h => absurd h hj⟩
  obtain ⟨fd, F⟩ := Classical.axiomOfChoice hx
  have hfa : f = He.ga K (tb.nm 26) := by
    have e := He.glo_ok X G (says_mem (f := .glo "law") c (by exact List.mem_append_left _ (List.mem_map.mpr ⟨("law", ["script"]), List.mem_of_getElem? (i := 26) (by rfl), rfl⟩)))
    exact Value.ref.inj (Option.some.inj (hf.symm.trans e))
  refine ⟨fd 26, fun s v => ?_, fun j => He.ga K (tb.nm j), fun j => .ref (He.ga K (tb.ex.getD j "")), fun ns a base LT => ?_⟩
  · have b := FunD.bindsA (ps := ["script"]) (F 26 (by decide)) fun _ _ _ _ _ _ us hl => match us, hl with | [_], _ => rfl
    exact b s [v] rfl
  · have A0 : Fx tb fd (fun j => He.ga K (tb.ex.getD j "")) ⟨fun j => He.ga K (tb.nm j), K, a, ns, tbK K lam, w⟩ (fun j => .ref (He.ga K (tb.ex.getD j ""))) K mg := fx_of X G c (fun _ _ => rfl) (fun j hj => (F j hj).kp) (binds (z := ⟨fun j => He.ga K (tb.nm j), K, a, ns, tbK K lam, w⟩) F) (kbs (z := ⟨fun j => He.ga K (tb.nm j), K, a, ns, tbK K lam, w⟩) F)
    rw [hfa]
    exact levels (T := tb) (z := ⟨fun j => He.ga K (tb.nm j), K, a, ns, tbK K lam, w⟩) (fs := fs ns) (by rfl) (fun n j hj IH d e => step rfl rfl rfl (resB_ok RB) LT rfl (fun _ => rfl) A0 F n IH j hj d e) lv 26 (by decide)
def fu : Nat := 1000
def lv : Nat := 40
abbrev cN (ns : List Int) (n : Nat) : CF := callN (fs ns) fu n
theorem l_f_law_begun (ns : List Int) (hl : ns.length ≤ 63) (n : Nat) : ∀ tl, (cN ns (n + 1)) 0 [] (.non :: tl) = .ok (obD 0) (.town 0 [] :: tl) := fun tl => rfl
theorem l_f_law_draw (ns : List Int) (hl : ns.length ≤ 63) (n : Nat) : DrawOk (cN ns (n + 1)) 1 := fun many h0 h1 => draw_ok hl h0 h1
theorem l_f_law_combination (ns : List Int) (hl : ns.length ≤ 63) (n : Nat) : CombinOk (cN ns (n + 2)) 2 := fun ms most h1 h2 h3 h4 h5 => ev_law_combination fu (l_f_law_draw ns hl (n + 0)) ms most h1 h2 h3 h4 h5
theorem l_f_law_model (ns : List Int) (hl : ns.length ≤ 63) (n : Nat) : ModelDraw (cN ns (n + 3)) 3 := fun b v r h1 h2 h3 h4 h5 => ev_law_model fu (l_f_law_draw ns hl (n + 1)) (l_f_law_combination ns hl (n + 0)) b v r h1 h2 h3 h4 h5
theorem l_f_law_has (ns : List Int) (hl : ns.length ≤ 63) (n : Nat) : HasOk (cN ns (n + 1)) 5 := fun t c h => ev_law_has (cN ns (n + 0)) fu t c h
theorem l_f_law_tests (ns : List Int) (hl : ns.length ≤ 63) (n : Nat) : LTests (cN ns (n + 2)) 6 := fun ms cs h1 h2 h3 => ev_law_tests fu (l_f_law_has ns hl (n + 0)) h1 h2 h3
theorem l_f_law_combinations (ns : List Int) (hl : ns.length ≤ 63) (n : Nat) : ∀ ms, ms.length ≤ 50 → (∀ n ∈ ms, 0 ≤ n ∧ n < 1000) → (∀ k, (lcT ((enI 0 ms).take k)).length ≤ 100000) → (cN ns (n + 1)) 4 [szD ms] = Ev.ret (.list (((lcT (enI 0 ms)).drop 1).map cbD)) := fun ms h1 h2 h3 => by have := ev_law_combinations (cf := (cN ns (n + 0))) fu h1 h2 h3 rfl; exact this
theorem l_f_law_open (ns : List Int) (hl : ns.length ≤ 63) (n : Nat) : ∀ ts c, (∀ t ∈ ts, ∀ p ∈ c, 0 ≤ p.1 ∧ p.1 < (t.length : Int)) → (cN ns (n + 2)) 24 [.list (ts.map tsD), cbD c] = Ev.ret (.bool (openB ts c)) := fun ts c h => ev_law_open fu (l_f_law_has ns hl (n + 0)) h
theorem l_f_law_parts (ns : List Int) (hl : ns.length ≤ 63) (n : Nat) : ∀ c, c.length ≤ 10 → (cN ns (n + 1)) 25 [cbD c] = Ev.ret (.list ((lpT c).map cbD)) := fun c h => by have := ev_law_parts (cf := (cN ns (n + 0))) fu h rfl; exact this
theorem l_f_is_ascending (ns : List Int) (hl : ns.length ≤ 63) (n : Nat) : AscOk (cN ns (n + 1)) 7 := fun xs h => ev_is_ascending (cN ns (n + 0)) fu h
theorem l_f_is_integer (ns : List Int) (hl : ns.length ≤ 63) (n : Nat) : IntOk (cN ns (n + 1)) 8 := fun d h => ev_is_integer (cN ns (n + 0)) fu h
theorem l_f_is_pair_of (ns : List Int) (hl : ns.length ≤ 63) (n : Nat) : PairOk (cN ns (n + 2)) 9 := fun ms d h => ev_is_pair_of fu (l_f_is_integer ns hl (n + 0)) ms h
theorem l_f_is_combination_of (ns : List Int) (hl : ns.length ≤ 63) (n : Nat) : CombOk (cN ns (n + 3)) 10 := fun ms d h => ev_is_combination_of fu (l_f_is_ascending ns hl (n + 1)) (l_f_is_pair_of ns hl (n + 0)) ms h
theorem l_f_is_model (ns : List Int) (hl : ns.length ≤ 63) (n : Nat) : ModelOk (cN ns (n + 4)) 11 := fun d h => ev_is_model fu (l_f_is_ascending ns hl (n + 2)) (l_f_is_combination_of ns hl (n + 0)) (l_f_is_integer ns hl (n + 2)) h
theorem l_f_check_model (ns : List Int) (hl : ns.length ≤ 63) (n : Nat) : CheckOk (cN ns (n + 5)) 12 0 := fun d h => ev_check_model fu (l_f_is_model ns hl (n + 0)) h
theorem l_f_has_all (ns : List Int) (hl : ns.length ≤ 63) (n : Nat) : HasOk (cN ns (n + 1)) 13 := fun t c h => ev_has_all (cN ns (n + 0)) fu t c h
theorem l_f_all_tests (ns : List Int) (hl : ns.length ≤ 63) (n : Nat) : AllT (cN ns (n + 2)) 14 := fun ms cs h1 h2 => ev_all_tests fu (l_f_has_all ns hl (n + 0)) h1 h2
theorem l_f_subsets (ns : List Int) (hl : ns.length ≤ 63) (n : Nat) : SubsOk (cN ns (n + 1)) 16 := fun m k h0 hm hk => by have := ev_subsets (cf := (cN ns (n + 0))) fu (m := m) (k := k) h0 hm hk rfl rfl; exact this
theorem l_f_check_combination (ns : List Int) (hl : ns.length ≤ 63) (n : Nat) : ∀ (ms : List Int) (cs : List (List (Int × Int))) (d : D), Pl d → (cN ns (n + 4)) 22 [mdD ms cs, d] = if isCombD ms d = true then Ev.ret .none else thr 2 := fun ms cs d h => ev_check_combination fu (l_f_is_combination_of ns hl (n + 0)) h
theorem l_f_blocking (ns : List Int) (hl : ns.length ≤ 63) (n : Nat) : ∀ ms cs c, MdB ms cs → CbOk ms c → Pu ((cN ns (n + 6)) 23 [mdD ms cs, cbD c]) fun v => (v = .none ∧ OpTo (vts ms cs) c c.length (c.length + 1)) ∨ BlkSp (vts ms cs) c c.length v := fun ms cs c h hc => ev_blocking (x := 0) (y := 0) fu (l_f_check_model ns hl (n + 0)) (l_f_all_tests ns hl (n + 3)) (l_f_has_all ns hl (n + 4)) (l_f_subsets ns hl (n + 4)) (by rw [(l_f_check_combination ns hl (n + 1)) ms cs (cbD c) (pl_cb c), if_pos (isComb_iff.mpr hc)]) h.mod (small_of (by have := h.len; omega) fun n hn => by have := h.siz n hn; omega).b h.rng (by have := cb_len hc; have := h.len; omega) fun p hp => ⟨(hc.rng p hp).1, (hc.rng p hp).2.1⟩
theorem l_f_projection (ns : List Int) (hl : ns.length ≤ 63) (n : Nat) : ProjOk (cN ns (n + 1)) 15 := fun t ps h => ev_projection (cf := (cN ns (n + 0))) fu h
theorem l_f_projections (ns : List Int) (hl : ns.length ≤ 63) (n : Nat) : PrjsOk (cN ns (n + 2)) 17 := fun t k ht hk => by have := ev_projections (t := t) (k := k) fu (l_f_projection ns hl (n + 0)) (l_f_subsets ns hl (n + 0)) ht hk; exact this
theorem l_f_possible_of (ns : List Int) (hl : ns.length ≤ 63) (n : Nat) : PosOk (cN ns (n + 3)) 18 := fun ms cs k hs hk hc => by have := ev_possible_of fu (l_f_all_tests ns hl (n + 0)) (l_f_projections ns hl (n + 0)) hs hk hc rfl rfl; exact this
theorem l_f_extensions (ns : List Int) (hl : ns.length ≤ 63) (n : Nat) : ExtOk (cN ns (n + 1)) 19 := fun ms c hs hl h0 h1 => by have := ev_extensions (cf := (cN ns (n + 0))) fu hs hl h0 h1 rfl; exact this
theorem l_f_hidden_rules (ns : List Int) (hl : ns.length ≤ 63) (n : Nat) : ∀ ms cs, MdB ms cs → (cN ns (n + 6)) 20 [mdD ms cs] = Ev.ret (.tuple (sortD ((hidT (posK (vts ms cs)) (exts ms) ms.length).map cbD))) := fun ms cs h => hidden_ok fu (l_f_check_model ns hl (n + 0)) (l_f_possible_of ns hl (n + 2)) (l_f_extensions ns hl (n + 4)) h.mod (by have := h.len; omega) (fun n hn => by have := h.siz n hn; omega) h.rng
theorem holds (ns : List Int) (hl : ns.length ≤ 63) (K : PySem.W.Frag) : ∃ w, callN (fs ns) fu lv lawI [scrD] (tabW (tbK K lam)) = .ok (.bool true) w :=
  ev_k05 (cf := cN ns 39) (ib := 0) (ic := 2) (ico := 4) (id_ := 1) (im := 3) (iop := 24) (ipa := 25) (it := 6) (ibl := 23) (ihi := 20) fu
    { beg := (l_f_law_begun ns hl 38), cmb := (l_f_law_combination ns hl 37), drw := (l_f_law_draw ns hl 38), mod := (l_f_law_model ns hl 36), tst := (l_f_law_tests ns hl 37), lco := (l_f_law_combinations ns hl 38), opn := (l_f_law_open ns hl 37), prt := (l_f_law_parts ns hl 38), blk := (l_f_blocking ns hl 33)
      blc := fun ms cs d h1 h2 h3 => ev_blocking_c fu (l_f_check_model ns hl 33) h1.mod ((l_f_check_combination ns hl 34) ms cs d h2) h3, blm := fun d e h1 h2 => ev_blocking_m fu (l_f_check_model ns hl 33) h1 h2, hid := (l_f_hidden_rules ns hl 33), him := fun d h1 h2 => ev_hidden_m fu (l_f_check_model ns hl 33) h1 h2 } _
end K05
open PySem PySem.W PySem.Calls PyProof.Rows
set_option maxHeartbeats 0 in
theorem PySem.Challenge.cw_faultcover_k05_blocking_holds : PySem.Challenge.rw_faultcover_k05_blocking.Holds := by
  w_on; o_law
  refine HandSHeadRun.head_any (r := OpenLaw.row PySem.Challenge.rw_faultcover_k05_blocking) (q := view (OpenLaw.row PySem.Challenge.rw_faultcover_k05_blocking).prog [49]) (H := K05.hk) (ob := K05.ob) (M := 12000) (loose := K05.loose) (d := HandSHeadRun.topDef (OpenLaw.row PySem.Challenge.rw_faultcover_k05_blocking).prog 49) (kwd := []) K05.ob_eq
    (by kernel_rfl) (fun s => by kernel_rfl) K05.run (by kernel_rfl) (by kernel_rfl) (by kernel_rfl) (by rfl) (by first | assumption | decide +kernel) (by decide +kernel) ⟨rfl, rfl, rfl, rfl, rfl, by decide +kernel⟩ ?hw ?hc
  case hw => w_witness2
  case hc =>
    refine Ev.walk_ofX (l := PySem.Challenge.rw_faultcover_k05_blocking) (n := 63) (k := 3 * K05.lv) (x := "script") (CX := fun w => L2.CX (PySem.Challenge.rw_faultcover_k05_blocking).prog w) rfl (by decide) (by kernel_rfl) ⟨rfl, by decide, by decide⟩ ?F (fun w _ _ _ _ z => Ev.cx_no z)
    intro w mg fa h Y G hmg0
    obtain ⟨K, KX, c⟩ := Y
    have hmg : mg ("law" : PySem.Str) = some (.ref fa) := by
      have e : (HandSHeadRun.topDef (OpenLaw.row PySem.Challenge.rw_faultcover_k05_blocking).prog 49).name = ("law" : PySem.Str) := by kernel_rfl
      rw [← e]
      exact hmg0
    have more := c.more
    simp only [Ev.exK, Bool.and_eq_true, decide_eq_true_eq, Bool.not_true, Bool.false_or] at more
    obtain ⟨nd, RB⟩ := more
    obtain ⟨fd, hb, ga, cl, hF⟩ := K05.law_fn (w := w) KX G hmg c.t.d RB K05.fu K05.lv
    refine ⟨K, fd, (Ev.tfL K05.lam).map (He.cT K), fun ns a => Ev.spF ⟨ga, K, a, ns, Ev.tbK K K05.lam, w⟩ cl (Ev.callN (K05.fs ns) K05.fu K05.lv K05.lawI) 1, KX, fun p hp => ?_, fun p hp => ?_, fun p hp => ?_, hb, fun H a ns hl hT hS => ?_, fun ns a base _ _ LT => hF ns a base LT⟩
    · obtain ⟨x, hx, rfl⟩ := List.mem_map.mp hp
      exact c.empty x hx
    · obtain ⟨x, hx, rfl⟩ := List.mem_map.mp hp
      exact c.out x hx
    · obtain ⟨x, hx, rfl⟩ := List.mem_map.mp hp
      exact codeHd_of_K KX (c.hd x hx)
    obtain ⟨w', e⟩ := K05.holds ns hl K
    refine ⟨rfl, Ev.tabM (Ev.tbK K K05.lam), _, Ev.tabW (Ev.tbK K K05.lam), [Ev.scrD], Ev.start_wf (fa := ga) hS (fun p hp => ?_) nd, .cons .scr .nil, ?_⟩
    · obtain ⟨x, hx, rfl⟩ := List.mem_map.mp hp
      exact hT (He.cT K (x, none)) (List.mem_map.mpr ⟨(x, none), List.mem_map.mpr ⟨x, hx, rfl⟩, rfl⟩)
    rw [e]
    intro m' F' H' v _ _ r
    cases r
    rfl

