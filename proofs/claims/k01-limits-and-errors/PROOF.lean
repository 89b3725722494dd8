import PyProof.Rows.All
import Wide.All
import OpenK.AllK
import Wide.FinOn
import HandS.ForMost
import HandS.Remove
import HandS.Exc
import HandS.ExcOwn
import HandS.TupAny
import HandS.TupMul
import HandS.IsInst
import HandS.Deep
import HandS.More
import HandS.Flow
import KE.KIntText
import KE.KIndexOf
import HandS.SortInts
import HandS.Conv
import HandS.Zip
import HandS.Rev
import HandS.SetFor
import HandS.Strs
import HandS.RaiseMore
import HandS.CallSlots
import HandS.Style
import PyProof.CollectStr
import PyProof.Rows.SortShellAny
import KE.KRevSl
import KE.GoesEnum
import KE.GoesMore
import PyProof.EnumMake
import HandS.TryOnly
import HandS.ExcIs
import HandS.Star
import HandS.Text
import KE.KExcIs
import HandS.IterNext
import HandS.ExcValue
import PySem.Challenge.RW_lanerules_k01_limits_and_errors
set_option Elab.async false
set_option linter.all false
set_option maxRecDepth 100000
/-! PyI, part A: data, the small language, what it computes. -/
namespace PyI
open PySem L2

/-- data without a heap -/
inductive D where
  | non | bl (b : Bool) | int (i : Int) | str (s : Str) | tup (xs : List D) | lst (xs : List D) | dic (kvs : List (L2.Key × D)) | han (n : Nat)
  | scr (ns : List Int)
  /-- an object of a class of one's own: its class, its fields' names and values -/
  | obj (c : Str) (ns : List Str) (vs : List D)

/-- an outcome: a value and the state of what is shared, an error, or stuck -/
inductive R (α : Type) where
  | ok (a : α) (g : D)
  | exc (c : Str) (fs : List (Str × D)) (g : D)
  | no

def R.bind {α β : Type} : R α → (α → D → R β) → R β
  | .ok a g, f => f a g
  | .exc c fs g, _ => .exc c fs g
  | .no, _ => .no
def opt {α : Type} (g : D) : Option α → R α
  | some a => .ok a g
  | none => .no
def noexc {α : Type} : R α → R α
  | .exc _ _ _ => .no
  | r => r
def strOnly : R D → R D
  | .ok (.str z) g => .ok (.str z) g
  | _ => .no

/-- a slot: no value, a value, a list of its own, a dict of its own -/
inductive Sl where
  | un | val (d : D) | ol (xs : List D) | od (kvs : List (L2.Key × D)) | er (L : List Str) (c : Str) (fs : List (Str × D))

abbrev Rho := List Sl
abbrev Sem := List D → D → R D

inductive Cn where
  | non | bl (b : Bool) | int (i : Int) | str (s : Str)
def Cn.d : Cn → D
  | .non => .non | .bl b => .bl b | .int i => .int i | .str s => .str s
inductive Bo where
  | add | sub | mul | fdiv | mod | pow
  deriving DecidableEq
inductive Co where
  | eq | ne | lt | le | gt | ge | is | isnot | isin | notin
  deriving DecidableEq
/-- built-in functions by name -/
inductive BI where
  | len | abs | min | max | sum | all | any | sorted | repr | int | str | tuple | list
  deriving DecidableEq
/-- types asked for by isinstance -/
inductive Ty where
  | int | bool | str | tuple | list | dict
  deriving DecidableEq
/-- methods that change nothing -/
inductive Mt where
  | get | index | count | join | split | upper
  deriving DecidableEq
/-- a target: a name, a tuple of names -/
inductive Tg where
  | one (i : Nat) | tup (is : List Nat)

mutual
inductive E where
  | c (k : Cn) | v (i : Nat) | vb (i : Nat) | g (x : Str) (d : D)
  | neg (a : E) | not (a : E) | bin (op : Bo) (a b : E) | cmp (op : Co) (a b : E) | chain (op op' : Co) (a b c : E)
  | and (es : List E) | or (es : List E) | ife (t a b : E)
  | tup (es : List E) | lst (es : List E)
  | idx (a i : E) | slc (a : E) (lo hi : Option E) | rev (a : E)
  | call (f : Str) (m : Sem) (es : List E) | bi (f : BI) (es : List E) | isi (a : E) (t : Ty) | lenset (a : E)
  | mth (m : Mt) (o : E) (es : List E)
  | lc (tg : Tg) (it : I) (ifs : List E) (elt : E)
  | cv (f : BI) (it : I) | dct (ks : List Cn) (es : List E)
  | eis (i : Nat) (cs : List Str) (tp : Bool) | efl (i : Nat) (f : Str)
inductive I where
  | e (a : E) | rng1 (a : E) | rng2 (a b : E) | rng3 (a b c : E) | enum (a : E) | zip (a b : E) | rev (a : E)
end

/-- what a try's body does with its value -/
inductive Tk where
  | set (i : Nat) | expr | ret
inductive S where
  | set (i : Nat) (e : E) | setO (i : Nat) (e : E) | par (is : List (Nat × Bool)) (es : List E) | unp (tg : Tg) (e : E)
  | frz (i : Nat)
  | app (i : Nat) (e : E) | ext (i : Nat) (e : E) | rem (i : Nat) (e : E) | qcut (q l : Nat) | qflat (i j q : Nat) | setI (i : Nat) (k e : E) | aug (i : Nat) (op : Bo) (e : E)
  | appPop (i j : Nat) (e : E) | setPop (k j : Nat) (e : E) | ins (i : Nat) (a b : E)
  | expr (e : E) | ret (e : E) | retN | ift (t : E) (a b : List S)
  | loop (tg : Tg) (it : I) (b : List S) | whil (n : Nat) (t : E) (b : List S) | never | brk | cont
  | rai (c : Str) (es : List E) | tri (L : List Str) (k : Tk) (i : Nat) (e : E) (hs : List S)

/-! ### what operators give -/
def keyPy : L2.Key → PyData
  | .inl i => .int i
  | .inr s => .str s
mutual
def toPy : D → PyData
  | .non => .none | .bl b => .bool b | .int i => .int i | .str s => .str s
  | .tup xs => .tuple (toPys xs) | .lst xs => .list (toPys xs) | .dic kvs => .dict (toPyKv kvs) | .han _ => .none | .scr _ => .none | .obj _ _ _ => .none
def toPys : List D → List PyData
  | [] => []
  | x :: xs => toPy x :: toPys xs
def toPyKv : List (L2.Key × D) → List (PyData × PyData)
  | [] => []
  | (k, x) :: r => (keyPy k, toPy x) :: toPyKv r
end
mutual
/-- no handle within -/
def plain : D → Bool
  | .tup xs => plains xs | .lst xs => plains xs | .dic kvs => plainKv kvs | .han _ => false | .scr _ => false | .obj _ _ _ => false
  | .non | .bl _ | .int _ | .str _ => true
def plains : List D → Bool
  | [] => true
  | x :: xs => plain x && plains xs
def plainKv : List (L2.Key × D) → Bool
  | [] => true
  | (_, x) :: r => plain x && plainKv r
end

def intsD : List D → Option (List Int)
  | [] => some []
  | .int i :: r => (intsD r).map (i :: ·)
  | _ => none
def boolsD : List D → Option (List Bool)
  | [] => some []
  | .bl i :: r => (boolsD r).map (i :: ·)
  | _ => none
def strsD : List D → Option (List Str)
  | [] => some []
  | .str i :: r => (strsD r).map (i :: ·)
  | _ => none

def binF : Bo → D → D → Option D
  | .add, .int i, .int j => some (.int (i + j))
  | .add, .str x, .str y => if x.length + y.length ≤ sizeLine then some (.str (x ++ y)) else none
  | .add, .lst x, .lst y => if x.length + y.length ≤ sizeLine then some (.lst (x ++ y)) else none
  | .add, .tup x, .tup y => if x.length + y.length ≤ sizeLine then some (.tup (x ++ y)) else none
  | .sub, .int i, .int j => some (.int (i - j))
  | .mul, .int i, .int j => if (-(2 ^ 64) < i ∧ i < 2 ^ 64) ∨ (-(2 ^ 64) < j ∧ j < 2 ^ 64) then some (.int (i * j)) else none
  | .mul, .lst x, .int k => if -(2 ^ 63) ≤ k ∧ k < 2 ^ 63 ∧ x.length * k.toNat ≤ sizeLine then some (.lst (List.replicate k.toNat x).flatten) else none
  | .mul, .tup x, .int k => if k = 1 then some (.tup x) else if x ≠ [] ∧ 2 ≤ k ∧ k ≤ 1000 ∧ x.length ≤ 1000 then some (.tup (List.replicate k.toNat x).flatten) else none
  | .mul, .str x, .int k => if x.length ≤ 1000 ∧ 0 ≤ k ∧ k ≤ 10000 then some (.str (Txt.mul x k)) else none
  | .fdiv, .int i, .int j => if j ≠ 0 ∧ j.natAbs < 1073741824 then some (.int (i.fdiv j)) else none
  | .mod, .int i, .int j => if j ≠ 0 then some (.int (i.fmod j)) else none
  | .pow, .int i, .int j => if 0 ≤ j ∧ j ≤ 1000000 ∧ i.natAbs < 2 ^ 64 then some (.int (i ^ j.toNat)) else none
  | _, _, _ => none

/-- a dict's value, a dict with a value -/
def valD (kvs : List (L2.Key × D)) (k : L2.Key) : Option D := (kvs.find? fun kv => decide (kv.1 = k)).map (·.2)
def putD (kvs : List (L2.Key × D)) (k : L2.Key) (x : D) : List (L2.Key × D) :=
  if (kvs.any fun kv => decide (kv.1 = k)) = true then kvs.map (fun kv => if kv.1 = k then (kv.1, x) else kv) else kvs ++ [(k, x)]
def lenNe : D → D → Bool
  | .lst xs, .lst ys => decide (xs.length ≠ ys.length)
  | _, _ => false
def strEq : D → D → Option Bool
  | .str x, .str y => some (decide (x = y))
  | _, _ => none
/-- tuples, one of them () -/
def nilT : D → D → Option Bool
  | .tup xs, .tup [] => some xs.isEmpty
  | .tup [], .tup (_ :: _) => some false
  | _, _ => none
def eqF (a b : D) : Option Bool := match strEq a b with
  | some r => some r
  | none => match nilT a b with
  | some r => some r
  | none => if lenNe a b then some false else if plain a && plain b && SeqAt.shaped (toPy a) && SeqAt.shaped (toPy b) then some (PyData.eqv (toPy a) (toPy b)) else none
/-- flat things: their equality is decided at once -/
def flatD : D → Bool
  | .non | .bl _ | .int _ | .str _ => true
  | _ => false
def eqvD (a b : D) : Bool := PyData.eqv (toPy a) (toPy b)
def inF (x : D) : D → Option Bool
  | .lst ys => if plain x && plains ys && SeqAt.shaped (toPy x) && SeqAt.shaped (.list (toPys ys)) then some (ys.any fun y => eqvD y x) else none
  | .tup ys => if flatD x && ys.all flatD then some (ys.any fun y => eqvD y x) else none
  | .dic kvs => match x with
    | .int i => some (valD kvs (.inl i)).isSome
    | .str s => some (valD kvs (.inr s)).isSome
    | _ => none
  | .str z => match x with
    | .str ⟨⟨[c]⟩⟩ => some (decide (c ∈ z.cps.toList))
    | _ => none
  | _ => none
def isNonD : D → Bool
  | .non => true
  | _ => false
def cmpF : Co → D → D → Option Bool
  | .eq, a, b => eqF a b
  | .ne, a, b => (eqF a b).map (!·)
  | .lt, .int i, .int j => some (decide (i < j))
  | .le, .int i, .int j => some (decide (i ≤ j))
  | .gt, .int i, .int j => some (decide (j < i))
  | .ge, .int i, .int j => some (decide (j ≤ i))
  | .is, a, .non => some (isNonD a)
  | .isnot, a, .non => some (!isNonD a)
  | .isin, a, b => inF a b
  | .notin, a, b => (inF a b).map (!·)
  | _, _, _ => none

/-- an item by its place -/
def idxF : D → D → Option D
  | .tup xs, .int i => atI xs i
  | .lst xs, .int i => atI xs i
  | .str z, .int i => if z.length ≤ sizeLine then (atI z.cps.toList i).map fun c => .str ⟨#[c]⟩ else none
  | .dic kvs, .int i => valD kvs (.inl i)
  | .dic kvs, .str s => valD kvs (.inr s)
  | _, _ => none

def cutG {α : Type} (xs : List α) (lo hi : Option Int) : List α := (xs.drop (HT.sIx xs.length 0 lo)).take (HT.sIx xs.length xs.length hi - HT.sIx xs.length 0 lo)
def slcF (lo hi : Option Int) : D → Option D
  | .tup xs => some (.tup (cutG xs lo hi))
  | .lst xs => some (.lst (cutG xs lo hi))
  | .str z => if z.length ≤ sizeLine then some (.str (cutS z lo hi)) else none
  | .scr ns => some (.lst ((cutG ns lo hi).map .int))
  | _ => none
def revS (z : Str) : Str := ⟨z.cps.toList.reverse.toArray⟩
def revF : D → Option D
  | .str z => if z.length ≤ sizeLine then some (.str (revS z)) else none
  | .lst xs => some (.lst xs.reverse)
  | .tup xs => some (.tup xs.reverse)
  | _ => none
def intOf : D → Option Int
  | .int i => some i
  | _ => none
def isBl : D → Option Bool
  | .bl b => some b
  | _ => none

/-- insertion sort of ints -/
def insI (x : Int) : List Int → List Int
  | [] => [x]
  | y :: r => if x ≤ y then x :: y :: r else y :: insI x r
def sortI : List Int → List Int
  | [] => []
  | x :: r => insI x (sortI r)
def maxI : Int → List Int → Int
  | m, [] => m
  | m, x :: r => maxI (if x > m then x else m) r
def minI : Int → List Int → Int
  | m, [] => m
  | m, x :: r => minI (if x < m then x else m) r

def tyF : Ty → D → Option Bool
  | _, .han _ => none
  | _, .scr _ => none
  | _, .obj _ _ _ => none
  | .int, .int _ => some true
  | .int, .bl _ => some true
  | .bool, .bl _ => some true
  | .str, .str _ => some true
  | .tuple, .tup _ => some true
  | .list, .lst _ => some true
  | .dict, .dic _ => some true
  | _, _ => some false

/-- what a written repr is -/
def shownD (d : D) : Str := (toPy d).shown
def reprOk (d : D) : Bool := plain d && (toPy d).showable && decide ((toPy d).shown.length ≤ sizeLine) && decide ((toPy d).depth ≤ 60)

def biF : BI → List D → Option D
  | .len, [.str x] => if x.length ≤ sizeLine then some (.int x.length) else none
  | .len, [.tup x] => some (.int x.length)
  | .len, [.lst x] => some (.int x.length)
  | .len, [.dic x] => some (.int x.length)
  | .len, [.scr x] => some (.int x.length)
  | .abs, [.int i] => some (.int (if i < 0 then -i else i))
  | .min, [.int i, .int j] => some (.int (if j < i then j else i))
  | .max, [.int i, .int j] => some (.int (if j > i then j else i))
  | .min, [.lst xs] => match intsD xs with
    | some (x :: r) => some (.int (minI x r))
    | _ => none
  | .max, [.lst xs] => match intsD xs with
    | some (x :: r) => some (.int (maxI x r))
    | _ => none
  | .sum, [.lst xs] => (intsD xs).map fun ns => .int ns.sum
  | .all, [.lst xs] => (boolsD xs).map fun bs => .bl (bs.all id)
  | .any, [.lst xs] => (boolsD xs).map fun bs => .bl (bs.any id)
  | .sorted, [.lst xs] => (intsD xs).map fun ns => .lst ((sortI ns).map .int)
  | .sorted, [.tup xs] => (intsD xs).map fun ns => .lst ((sortI ns).map .int)
  | .sorted, [.str z] => if z.length ≤ sizeLine then some (.lst ((sortI (z.cps.toList.map fun (c : Nat) => (c : Int))).map fun i => .str ⟨#[i.toNat]⟩)) else none
  | .repr, [d] => if reprOk d then some (.str (shownD d)) else none
  | .int, [.int i] => some (.int i)
  | .int, [.bl b] => some (.int (if b then 1 else 0))
  | .int, [.str x] => if x.length ≤ 640 then (intText? x).map .int else none
  | .str, [.str x] => some (.str x)
  | .str, [.int i] => if i.natAbs.log2 < 1920 then some (.str (toString i)) else none
  | .tuple, [.lst xs] => some (.tup xs)
  | .tuple, [.tup xs] => some (.tup xs)
  | .list, [.lst xs] => some (.lst xs)
  | .list, [.tup xs] => some (.lst xs)
  | _, _ => none

/-- each once -/
def nub : List Int → List Int
  | [] => []
  | x :: r => if x ∈ r then nub r else x :: nub r
/-- len(set(x)) -/
def lensetF : D → Option D
  | .tup xs => (intsD xs).bind fun ns => if ns.length ≤ 1000 then some (.int ((nub ns).length : Nat)) else none
  | _ => none

/-- the things that have the method -/
def mtD : Mt → D → Bool
  | .get, .dic _ => true
  | .index, .lst _ => true
  | .index, .tup _ => true
  | .count, .lst _ => true
  | .count, .str _ => true
  | .join, .str _ => true
  | .split, .str _ => true
  | .upper, .str _ => true
  | _, _ => false
def mtF : Mt → D → List D → Option D
  | .get, .dic kvs, [.int i] => some ((valD kvs (.inl i)).getD .non)
  | .get, .dic kvs, [.str s] => some ((valD kvs (.inr s)).getD .non)
  | .get, .dic kvs, [.int i, x] => some ((valD kvs (.inl i)).getD x)
  | .get, .dic kvs, [.str s, x] => some ((valD kvs (.inr s)).getD x)
  | .index, .lst ys, [x] => if flatD x && ys.all flatD then (ys.findIdx? fun y => eqvD y x).map fun (j : Nat) => .int j else none
  | .index, .tup ys, [.int k] => match intsD ys with
    | some ns => if k ∈ ns then some (.int (ns.idxOf k : Nat)) else none
    | none => none
  | .count, .lst ys, [x] => if flatD x && ys.all flatD then some (.int (ys.countP fun y => eqvD y x : Nat)) else none
  | .count, .str a, [.str b] => some (.int (Txt.count a b))
  | .join, .str a, [.lst ys] => match strsD ys with
    | some zs => if (zs.map Str.length).sum + zs.length * a.length ≤ 16777216 then some (.str (Txt.join a zs)) else none
    | none => none
  | .split, .str a, [.str b] => if (b.length == 0) = false ∧ a.length + 2 ≤ sizeLine then some (.lst ((Txt.split a b).map .str)) else none
  | .upper, .str a, [] => if a.length ≤ 5592405 then some (.str (Txt.upper a)) else none
  | _, _, _ => none

/-! ### what is walked -/
def itemsF : D → Option (List D)
  | .lst xs => some xs
  | .tup xs => some xs
  | .str z => some (z.cps.toList.map fun c => .str ⟨#[c]⟩)
  | .scr ns => some (ns.map .int)
  | _ => none
def rngL (lo : Int) (n : Nat) : List D := (List.range n).map fun (k : Nat) => .int (lo + (k : Int))
def rng3L (lo c : Int) (n : Nat) : List D := (List.range n).map fun (k : Nat) => .int (lo + (k : Int) * c)
def enumL (xs : List D) : List D := (List.range xs.length).zipWith (fun (k : Nat) x => .tup [.int k, x]) xs
def inBd (i : Int) : Bool := decide (-(2 ^ 62) ≤ i) && decide (i < 2 ^ 62)

/-! ### slots -/
def getV (ρ : Rho) (i : Nat) : Option D := match ρ[i]? with
  | some (.val d) => some d
  | _ => none
def getB (ρ : Rho) (i : Nat) : Option D := match ρ[i]? with
  | some (.val d) => some d
  | some (.ol xs) => some (.lst xs)
  | some (.od kvs) => some (.dic kvs)
  | _ => none
def Tg.slots : Tg → List Nat
  | .one i => [i]
  | .tup is => is
def setAll : Rho → List Nat → List D → Rho
  | ρ, i :: is, d :: ds => setAll (ρ.set i (.val d)) is ds
  | ρ, _, _ => ρ
def bindT : Tg → D → Rho → Option Rho
  | .one i, d, ρ => some (ρ.set i (.val d))
  | .tup is, .tup ds, ρ => if is.length = ds.length then some (setAll ρ is ds) else none
  | .tup is, .lst ds, ρ => if is.length = ds.length then some (setAll ρ is ds) else none
  | _, _, _ => none
def wipeE (ρ : Rho) : List Nat → Rho
  | [] => ρ
  | v :: vs => (wipeE ρ vs).set v .un

/-- a key -/
def keyOf : D → Option L2.Key
  | .int i => some (.inl i)
  | .str s => some (.inr s)
  | _ => none
/-- a dict's display -/
def pairsF : List Cn → List D → Option (List (L2.Key × D))
  | [], [] => some []
  | k :: ks, d :: ds => (keyOf k.d).bind fun q => (pairsF ks ds).map ((q, d) :: ·)
  | _, _ => none
def dctF (ks : List Cn) (ds : List D) : Option D := (pairsF ks ds).map fun kvs => .dic (kvs.foldl (fun acc kv => putD acc kv.1 kv.2) [])
/-- tuple or list of a range -/
def cvF (f : BI) (xs : List D) : Option D := if xs.length ≤ sizeLine then (match f with
  | .tuple => some (.tup xs)
  | .list => some (.lst xs)
  | _ => none) else none
/-- a comprehension's turns: what is kept of each item -/
def lcL (step : D → D → R (Option D)) : List D → D → R (List D)
  | [], g => .ok [] g
  | x :: xs, g => (step x g).bind fun o g1 => (lcL step xs g1).bind fun ys g2 => .ok (match o with | some y => y :: ys | none => ys) g2

/-! ### errors -/
/-- is an error of class c one of class x? -/
def subE (c x : Str) : Bool := decide (x = c) || decide (x = ("PassError" : Str)) || decide (x = ("ValueError" : Str))
def knownE (L : List Str) (x : Str) : Bool := decide (x ∈ L) || decide (x = ("PassError" : Str)) || decide (x = ("ValueError" : Str))
def eisF (ρ : Rho) (i : Nat) (cs : List Str) : Option D := match ρ[i]? with
  | some (.er L c _) => if cs.all (knownE L) then some (.bl (cs.any (subE c))) else none
  | _ => none
/-- the field of an error, by its class -/
def fldC (c : Str) : Option Str :=
  if c ∈ ([("BadRule" : Str), "BadRow", "BadWord"] : List Str) then some "error"
  else if c ∈ ([("NoLane" : Str), "NoCar", "NoCount", "NoPair"] : List Str) then some "value"
  else if c ∈ ([("BadDay" : Str), "NoIndex", "BadText", "Rejected", "BadCount", "BadWish"] : List Str) then some "index"
  else if c = "TooLarge" then some "limit"
  else if c = "NoVersion" then some "version"
  else if c = "OtherLanes" then some "count"
  else if c = "Absent" then some "car"
  else if c = "PassedOver" then some "lane"
  else none
def eflF (ρ : Rho) (i : Nat) (f : Str) : Option D := match ρ[i]? with
  | some (.er _ c [(g, d)]) => if f = g ∧ fldC c = some g then some d else none
  | _ => none
def fsOf : Option Str → List D → Option (List (Str × D))
  | none, [] => some []
  | some f, [d] => some [(f, d)]
  | _, _ => none
mutual
def ev : E → Rho → D → R D
  | .c k, _, g => .ok k.d g
  | .v i, ρ, g => opt g (getV ρ i)
  | .vb i, ρ, g => opt g (getB ρ i)
  | .g _ d, _, g => .ok d g
  | .neg a, ρ, g => (ev a ρ g).bind fun x g1 => opt g1 ((intOf x).map fun i => .int (-i))
  | .not a, ρ, g => (ev a ρ g).bind fun x g1 => opt g1 ((isBl x).map fun b => .bl (!b))
  | .bin op a b, ρ, g => (ev a ρ g).bind fun x g1 => (ev b ρ g1).bind fun y g2 => opt g2 (binF op x y)
  | .cmp op a b, ρ, g => (ev a ρ g).bind fun x g1 => (ev b ρ g1).bind fun y g2 => opt g2 ((cmpF op x y).map .bl)
  | .chain op op' a b c, ρ, g => (ev a ρ g).bind fun x g1 => (ev b ρ g1).bind fun y g2 => match cmpF op x y with
    | some true => (ev c ρ g2).bind fun z g3 => opt g3 ((cmpF op' y z).map .bl)
    | some false => .ok (.bl false) g2
    | none => .no
  | .and es, ρ, g => evAnd es ρ g
  | .or es, ρ, g => evOr es ρ g
  | .ife t a b, ρ, g => (ev t ρ g).bind fun x g1 => match x with
    | .bl true => ev a ρ g1
    | .bl false => ev b ρ g1
    | _ => .no
  | .tup es, ρ, g => (evs es ρ g).bind fun ds g1 => .ok (.tup ds) g1
  | .lst es, ρ, g => (evs es ρ g).bind fun ds g1 => .ok (.lst ds) g1
  | .idx a i, ρ, g => (ev a ρ g).bind fun x g1 => (ev i ρ g1).bind fun y g2 => opt g2 (idxF x y)
  | .slc a lo hi, ρ, g => (ev a ρ g).bind fun x g1 => (evo lo ρ g1).bind fun l g2 => (evo hi ρ g2).bind fun h g3 => opt g3 (slcF l.1 h.1 x)
  | .rev a, ρ, g => (ev a ρ g).bind fun x g1 => opt g1 (revF x)
  | .call _ m es, ρ, g => (evs es ρ g).bind fun ds g1 => m ds g1
  | .bi f es, ρ, g => (evs es ρ g).bind fun ds g1 => opt g1 (biF f ds)
  | .isi a t, ρ, g => (ev a ρ g).bind fun x g1 => opt g1 ((tyF t x).map .bl)
  | .lenset a, ρ, g => (ev a ρ g).bind fun x g1 => opt g1 (lensetF x)
  | .mth m o es, ρ, g => (ev o ρ g).bind fun x g1 => if mtD m x then (evs es ρ g1).bind fun ds g2 => opt g2 (mtF m x ds) else .no
  | .lc tg it ifs elt, ρ, g => (evI it ρ g).bind fun xs g1 => if xs.length ≤ sizeLine then
      noexc ((lcL (fun x g2 => match bindT tg x (wipeE ρ tg.slots) with
        | some ρ1 => (evAll ifs ρ1 g2).bind fun b g3 => if b then (ev elt ρ1 g3).bind fun y g4 => .ok (some y) g4 else .ok none g3
        | none => .no) xs g1).bind fun ys g2 => .ok (.lst ys) g2) else .no
  | .cv f it, ρ, g => (evI it ρ g).bind fun xs g1 => opt g1 (cvF f xs)
  | .dct ks es, ρ, g => (evs es ρ g).bind fun ds g1 => opt g1 (dctF ks ds)
  | .eis i cs _, ρ, g => opt g (eisF ρ i cs)
  | .efl i f, ρ, g => opt g (eflF ρ i f)
def evs : List E → Rho → D → R (List D)
  | [], _, g => .ok [] g
  | e :: es, ρ, g => (ev e ρ g).bind fun x g1 => (evs es ρ g1).bind fun xs g2 => .ok (x :: xs) g2
def evo : Option E → Rho → D → R (Option Int × Unit)
  | none, _, g => .ok (none, ()) g
  | some e, ρ, g => (ev e ρ g).bind fun x g1 => opt g1 ((intOf x).map fun i => (some i, ()))
def evAnd : List E → Rho → D → R D
  | [], _, _ => .no
  | [e], ρ, g => ev e ρ g
  | e :: e' :: es, ρ, g => (ev e ρ g).bind fun x g1 => match x with
    | .bl true => evAnd (e' :: es) ρ g1
    | .bl false => .ok (.bl false) g1
    | _ => .no
def evOr : List E → Rho → D → R D
  | [], _, _ => .no
  | [e], ρ, g => ev e ρ g
  | e :: e' :: es, ρ, g => (ev e ρ g).bind fun x g1 => match x with
    | .bl false => evOr (e' :: es) ρ g1
    | .bl true => .ok (.bl true) g1
    | .str z => if z.length = 0 then strOnly (evOr (e' :: es) ρ g1) else if z.length ≤ sizeLine then .ok (.str z) g1 else .no
    | _ => .no
def evAll : List E → Rho → D → R Bool
  | [], _, g => .ok true g
  | e :: es, ρ, g => (ev e ρ g).bind fun x g1 => match x with
    | .bl true => evAll es ρ g1
    | .bl false => .ok false g1
    | _ => .no
def evI : I → Rho → D → R (List D)
  | .e a, ρ, g => (ev a ρ g).bind fun x g1 => opt g1 (itemsF x)
  | .rng1 a, ρ, g => (ev a ρ g).bind fun x g1 => match x with
    | .int j => if inBd j then .ok (rngL 0 j.toNat) g1 else .no
    | _ => .no
  | .rng2 a b, ρ, g => (ev a ρ g).bind fun x g1 => (ev b ρ g1).bind fun y g2 => match x, y with
    | .int i, .int j => if inBd i && inBd j then .ok (rngL i (j - i).toNat) g2 else .no
    | _, _ => .no
  | .rng3 a b c, ρ, g => (ev a ρ g).bind fun x g1 => (ev b ρ g1).bind fun y g2 => (ev c ρ g2).bind fun z g3 => match x, y, z with
    | .int i, .int j, .int k => if inBd i && inBd j && decide (k = -1) then .ok (rng3L i k (i - j).toNat) g3 else .no
    | _, _, _ => .no
  | .enum a, ρ, g => (ev a ρ g).bind fun x g1 => match x with
    | .lst xs => .ok (enumL xs) g1
    | .tup xs => .ok (enumL xs) g1
    | .str z => .ok (enumL (z.cps.toList.map fun c => .str ⟨#[c]⟩)) g1
    | _ => .no
  | .zip a b, ρ, g => (ev a ρ g).bind fun x g1 => (ev b ρ g1).bind fun y g2 => match x, y with
    | .lst xs, .lst ys => .ok (xs.zipWith (fun x y => .tup [x, y]) ys) g2
    | .tup xs, .tup ys => .ok (xs.zipWith (fun x y => .tup [x, y]) ys) g2
    | _, _ => .no
  | .rev a, ρ, g => (ev a ρ g).bind fun x g1 => match x with
    | .lst xs => .ok xs.reverse g1
    | .tup xs => .ok xs.reverse g1
    | _ => .no
end

/-! ### statements -/
inductive Rs where
  | nx (ρ : Rho) (g : D) | rt (d : D) (g : D) | bk (ρ : Rho) (g : D) | ct (ρ : Rho) (g : D) | ex (c : Str) (fs : List (Str × D)) (g : D) | no
def R.then {α : Type} : R α → (α → D → Rs) → Rs
  | .ok a g, f => f a g
  | .exc c fs g, _ => .ex c fs g
  | .no, _ => .no
def optS {α : Type} (o : Option α) (f : α → Rs) : Rs := match o with
  | some a => f a
  | none => .no
def Rs.seq : Rs → (Rho → D → Rs) → Rs
  | .nx ρ g, f => f ρ g
  | r, _ => r
def loopL (body : D → Rho → D → Rs) : List D → Rho → D → Rs
  | [], ρ, g => .nx ρ g
  | x :: xs, ρ, g => match body x ρ g with
    | .nx ρ1 g1 => loopL body xs ρ1 g1
    | .ct ρ1 g1 => loopL body xs ρ1 g1
    | .bk ρ1 g1 => .nx ρ1 g1
    | r => r
def whilL (t : Rho → D → R D) (body : Rho → D → Rs) : Nat → Rho → D → Rs
  | 0, _, _ => .no
  | n + 1, ρ, g => match t ρ g with
    | .ok (.bl true) g1 => match body ρ g1 with
      | .nx ρ1 g2 => whilL t body n ρ1 g2
      | .ct ρ1 g2 => whilL t body n ρ1 g2
      | .bk ρ1 g2 => .nx ρ1 g2
      | r => r
    | .ok (.bl false) g1 => .nx ρ g1
    | .exc c fs g1 => .ex c fs g1
    | _ => .no
def own : D → Option Sl
  | .lst xs => some (.ol xs)
  | .dic kvs => some (.od kvs)
  | _ => none
def setPar : Rho → List (Nat × Bool) → List D → Option Rho
  | ρ, [], [] => some ρ
  | ρ, (i, true) :: is, d :: ds => (own d).bind fun s => setPar (ρ.set i s) is ds
  | ρ, (i, false) :: is, d :: ds => setPar (ρ.set i (.val d)) is ds
  | _, _, _ => none
def getOl (ρ : Rho) (i : Nat) : Option (List D) := match ρ[i]? with
  | some (.ol xs) => some xs
  | _ => none
def getO (ρ : Rho) (i : Nat) : Option Sl := match ρ[i]? with
  | some (.ol xs) => some (.ol xs)
  | some (.od kvs) => some (.od kvs)
  | _ => none
def augF : Bo → D → D → Option D
  | .add, .int i, .int j => some (.int (i + j))
  | .sub, .int i, .int j => some (.int (i - j))
  | _, _, _ => none
def setIF (s : Sl) (k x : D) : Option Sl := match s with
  | .ol xs => match k with
    | .int i => (ixN xs.length i).map fun j => .ol (xs.set j x)
    | _ => none
  | .od kvs => if kvs.length < sizeLine then (keyOf k).map fun q => .od (putD kvs q x) else none
  | _ => none

def Tk.fin : Tk → D → Rho → D → Rs
  | .set j, x, ρ, g => .nx (ρ.set j (.val x)) g
  | .expr, _, ρ, g => .nx ρ g
  | .ret, x, _, g => .rt x g
def isEr : Sl → Bool
  | .er _ _ _ => true
  | _ => false
def noEr (ρ : Rho) : Bool := ρ.all fun s => !isEr s
/-- behind a suite: its name goes; no error leaves it -/
def clrS (i : Nat) : Rs → Rs
  | .nx ρ g => if noEr (ρ.set i .un) then .nx (ρ.set i .un) g else .no
  | .bk ρ g => if noEr (ρ.set i .un) then .bk (ρ.set i .un) g else .no
  | .ct ρ g => if noEr (ρ.set i .un) then .ct (ρ.set i .un) g else .no
  | .rt d g => .rt d g
  | _ => .no
/-- the lists of a list of lists of ints -/
def qsD (qs : List (List Int)) : D := .lst (qs.map fun ns => .lst (ns.map .int))
def deQs : List D → Option (List (List Int))
  | [] => some []
  | .lst ys :: r => (intsD ys).bind fun n => (deQs r).map (n :: ·)
  | _ => none
mutual
def exec : S → Rho → D → Rs
  | .set i e, ρ, g => (ev e ρ g).then fun x g1 => .nx (ρ.set i (.val x)) g1
  | .setO i e, ρ, g => (ev e ρ g).then fun x g1 => optS (own x) fun s => .nx (ρ.set i s) g1
  | .par is es, ρ, g => (evs es ρ g).then fun xs g1 => optS (setPar ρ is xs) fun ρ1 => .nx ρ1 g1
  | .unp tg e, ρ, g => (ev e ρ g).then fun x g1 => optS (bindT tg x ρ) fun ρ1 => .nx ρ1 g1
  | .frz i, ρ, g => optS (getB ρ i) fun x => .nx (ρ.set i (.val x)) g
  | .app i e, ρ, g => optS (getOl ρ i) fun xs => (ev e ρ g).then fun x g1 => if xs.length < sizeLine then .nx (ρ.set i (.ol (xs ++ [x]))) g1 else .no
  | .ext i e, ρ, g => optS (getOl ρ i) fun xs => (ev e ρ g).then fun x g1 => match x with
    | .lst ys => if xs.length + ys.length ≤ sizeLine then .nx (ρ.set i (.ol (xs ++ ys))) g1 else .no
    | _ => .no
  | .rem i e, ρ, g => optS (getOl ρ i) fun xs => (ev e ρ g).then fun x g1 => match x, intsD xs with
    | .int k, some ns => if k ∈ ns then .nx (ρ.set i (.ol ((ns.erase k).map .int))) g1 else .no
    | _, _ => .no
  | .qcut q l, ρ, g => match getV ρ q, getV ρ l, g with
    | some (.han _), some (.int k), .lst xs => optS (deQs xs) fun qs => optS (ixN qs.length k) fun i => optS (qs[i]?) fun ns => .nx ρ (qsD (qs.set i (ns.drop 1)))
    | _, _, _ => .no
  | .qflat i j q, ρ, g => match ρ[i]?, getV ρ q, g with
    | some (.ol []), some (.han _), .lst xs => optS (deQs xs) fun qs => if qs ≠ [] ∧ i ≠ j ∧ i ≠ q ∧ j ≠ q ∧ qs.flatten.length ≤ sizeLine ∧ j < ρ.length then .nx ((ρ.set j .un).set i (.ol (qs.flatten.map .int))) g else .no
    | _, _, _ => .no
  | .setI i k e, ρ, g => (ev e ρ g).then fun x g1 => optS (getO ρ i) fun s => (ev k ρ g1).then fun y g2 => optS (setIF s y x) fun s1 => .nx (ρ.set i s1) g2
  | .aug i op e, ρ, g => optS (getV ρ i) fun x => (ev e ρ g).then fun y g1 => optS (augF op x y) fun z => .nx (ρ.set i (.val z)) g1
  | .appPop i j e, ρ, g => optS (getOl ρ i) fun xs => optS (getOl ρ j) fun ys => (ev e ρ g).then fun x g1 => match x with
    | .int a => optS (ixN ys.length a) fun k => optS (ys[k]?) fun y => if i ≠ j ∧ xs.length < sizeLine ∧ -(2 ^ 63) ≤ a ∧ a < 2 ^ 63 then .nx ((ρ.set j (.ol (ys.eraseIdx k))).set i (.ol (xs ++ [y]))) g1 else .no
    | _ => .no
  | .setPop k j e, ρ, g => optS (getOl ρ j) fun ys => (ev e ρ g).then fun x g1 => match x with
    | .int a => optS (ixN ys.length a) fun n => optS (ys[n]?) fun y => if k ≠ j ∧ -(2 ^ 63) ≤ a ∧ a < 2 ^ 63 then .nx ((ρ.set j (.ol (ys.eraseIdx n))).set k (.val y)) g1 else .no
    | _ => .no
  | .ins i a b, ρ, g => optS (getOl ρ i) fun xs => (ev a ρ g).then fun x g1 => (ev b ρ g1).then fun y g2 => match x with
    | .int k => if xs.length < sizeLine ∧ 0 ≤ k ∧ k < 2 ^ 63 then .nx (ρ.set i (.ol (xs.take k.toNat ++ [y] ++ xs.drop k.toNat))) g2 else .no
    | _ => .no
  | .expr e, ρ, g => (ev e ρ g).then fun _ g1 => .nx ρ g1
  | .ret e, ρ, g => (ev e ρ g).then fun x g1 => .rt x g1
  | .retN, _, g => .rt .non g
  | .ift t a b, ρ, g => (ev t ρ g).then fun x g1 => match x with
    | .bl true => execs a ρ g1
    | .bl false => execs b ρ g1
    | _ => .no
  | .loop tg it b, ρ, g => (evI it ρ g).then fun xs g1 => loopL (fun x ρ1 g2 => optS (bindT tg x ρ1) fun ρ2 => execs b ρ2 g2) xs ρ g1
  | .whil n t b, ρ, g => whilL (ev t) (execs b) n ρ g
  | .never, _, _ => .no
  | .brk, ρ, g => .bk ρ g
  | .cont, ρ, g => .ct ρ g
  | .rai c es, ρ, g => (evs es ρ g).then fun ds g1 => optS (fsOf (fldC c) ds) fun fs => .ex c fs g1
  | .tri L k i e hs, ρ, g => match ev e ρ g with
    | .ok x g1 => k.fin x ρ g1
    | .exc c fs g1 => if c ∈ L then clrS i (execs hs (ρ.set i (.er L c fs)) g1) else .no
    | .no => .no
def execs : List S → Rho → D → Rs
  | [], ρ, g => .nx ρ g
  | s :: r, ρ, g => (exec s ρ g).seq fun ρ1 g1 => execs r ρ1 g1
end

/-- what a def with so many parameters and slots gives -/
def fnD (np n : Nat) (body : List S) : Sem := fun ds g =>
  if ds.length = np then match execs body (ds.map .val ++ List.replicate (n - np) .un) g with
    | .nx _ g1 => .ok .non g1
    | .rt d g1 => .ok d g1
    | .ex c fs g1 => .exc c fs g1
    | _ => .no
  else .no
end PyI

set_option maxRecDepth 100000
/-! PyI, part TF: a new tuple, with its object: it has no dict. -/
namespace PyI
open PySem PySem.Spec PyProof.Rows L2
/-- what follows holds of a new tuple, whatever its object is, if only it has no dict -/
def Fz (Q : VK) (H : Hp) (xs : List V) : Prop := ∀ p, H p = none → ∀ o : Obj, o.dict = none → Q (.ref p) (upd H p (.frz o (.tup xs)))
section
variable {X : Cx}
theorem laidF {pins : List (Addr × Obj)} {σ : L2.St} {H : Hp} {s : Shared} {xs : List V} {us : List Value} {Q : VK} {t : Nat} (I : Inv X pins σ H s) (z : xs.length ≤ sizeLine) (r : Vals xs us) (q : Fz Q H xs) :
    EP X pins σ Q (.ref s.heap.objs.size) { s with heap := s.heap.push { cls := .type "tuple", data := .seq us.toArray }, toks := t } :=
  ⟨.ref _, _, I.laid (t' := t) (fun b u e => Heap.get?_push_of_some _ e) (Nat.le_refl _)
    (show ObjOk X.prog X.w _ _ _ (.frz { cls := .type "tuple", data := .seq us.toArray } (.tup xs)) from ⟨Heap.get?_push_size _ rfl, z, us, r, IsTup.new _ _⟩), rfl, q _ (I.hok.fresh (Nat.le_refl _)) _ rfl⟩
/-- t + u -/
def rCatF (K : PySem.W.Frag) : R2 := fun x y H Q => ∃ a b xs ys, x = .ref a ∧ y = .ref b ∧ SqT K H a xs ∧ SqT K H b ys ∧ xs.length + ys.length ≤ sizeLine ∧
  (xs = [] → Q (.ref b) H) ∧ (xs ≠ [] → ys = [] → Q (.ref a) H) ∧ (xs ≠ [] → ys ≠ [] → Fz Q H (xs ++ ys))
theorem opF_cat : OpR X (binaryOp .Add) (rCatF X.K) := by
  intro pins s σ H x y v u Q I rx ry h
  obtain ⟨a, b, xs, ys, rfl, rfl, ha, hb, hz, q0, q1, q2⟩ := h
  by_cases hx : xs = []
  · exact op_catA pins s σ H _ _ v u Q I rx ry ⟨a, b, xs, ys, rfl, rfl, ha, hb, hz, q0, fun h => absurd hx h, fun h => absurd hx h⟩
  · cases rx
    cases ry
    obtain ⟨its, r1, p1, _⟩ := I.tuple ha
    obtain ⟨its2, r2, p2, _⟩ := I.tuple hb
    refine HT.cat_tup p1 p2 (fun z => hx (r1.nil_iff.mp z)) (fun z => ⟨.ref a, H, I, rfl, q1 hx (r2.nil_iff.mp z)⟩) (fun z => ?_) (by rw [← r1.length, ← r2.length]; exact hz)
    exact laidF (t := s.toks) I (by rw [List.length_append]; exact hz) (r1.append r2) (q2 hx fun w => z (r2.nil_iff.mpr w))
def rSlF (K : PySem.W.Frag) : V → Option Int → Option Int → Hp → VK → Prop := fun x lo hi H Q => ∃ a xs, x = .ref a ∧ SqT K H a xs ∧
  (HT.sIx xs.length 0 lo = 0 ∧ HT.sIx xs.length xs.length hi = xs.length → Q (.ref a) H) ∧ (¬ (HT.sIx xs.length 0 lo = 0 ∧ HT.sIx xs.length xs.length hi = xs.length) → Fz Q H (cutV xs lo hi))
theorem slF_tup : SlR X (rSlF X.K) := by
  intro pins s σ H x v vl vu lo hi sl Q I rx hs pl pu h
  obtain ⟨a, xs, rfl, hx, q1, q2⟩ := h
  by_cases hw : HT.sIx xs.length 0 lo = 0 ∧ HT.sIx xs.length xs.length hi = xs.length
  · exact sl_tupA pins s σ H _ v vl vu lo hi sl Q I rx hs pl pu ⟨a, xs, rfl, hx, q1, fun h => absurd hw h⟩
  · cases rx
    obtain ⟨its, r, ht, hz⟩ := I.tuple hx
    have hlen : its.toArray.size = xs.length := by rw [List.size_toArray]; exact r.length.symm
    refine ⟨"tuple", _, PyProof.Rows.slot_tuple_getitem.lookup, ht.typeIs, ?_⟩
    refine HT.getItem_tuple_cut ht hs pl pu (by rw [hlen]; exact hw) ?_ (by rw [hlen]; exact hz)
    rw [hlen]
    exact laidF (t := s.toks) I (Nat.le_trans (cutV_length xs lo hi) hz) ((r.drop (HT.sIx xs.length 0 lo)).take (HT.sIx xs.length xs.length hi - HT.sIx xs.length 0 lo)) (q2 hw)
theorem callF_tuple_of : CallR X (.type "tuple") (fun xs H Q => ∃ p ys, xs = [.ref p] ∧ ((SqL X.K H p ys ∧ Fz Q H ys) ∨ (SqT X.K H p ys ∧ Q (.ref p) H))) := by
  intro pins s σ H xs us Q I r h
  obtain ⟨p, ys, rfl, h⟩ := h
  rcases h with ⟨hq, q⟩ | h
  · obtain ⟨u, rfl, rx⟩ := vals1 r
    cases rx
    obtain ⟨its, r', pl, hz⟩ := I.list hq
    have hlen := r'.length
    refine call_tuple_list pl.isList (fun h' kp => ?_) (by simp only [List.size_toArray] <;> omega)
    have I1 : Inv X pins σ H { s with heap := h' } := I.kept (t' := s.toks) kp
    exact laidF (t := s.toks) I1 hz r' q
  · exact call_tuple_of pins s σ H _ us Q I r ⟨p, ys, rfl, .inr h⟩
/-- a tuple of written items -/
def tTupF (t : TA) : TE := fun σ H Q => t σ H fun xs H1 => xs.length ≤ sizeLine ∧ Fz Q H1 xs
theorem peF_tup {es : List Expr} {t : TA} {pos : Pos} {x1} (h : PA X es t) : PE X (.Tuple es x1 pos) (tTupF t) := by
  refine ⟨fun pins s σ H Q I hq => ?_⟩
  refine wpAny_Tuple_spliced (thn (h.run pos pins s σ H _ I hq) fun us s1 ⟨xs, H1, I1, r, z, q⟩ => ⟨by rw [← r.length]; exact z, ?_⟩)
  exact laidF (t := s1.toks) I1 z r q
def tTupRgF (te : L2.St → Hp → (Int → Int → Hp → Prop) → Prop) : TE := fun σ H Q => te σ H fun a b H1 => RgOk a b ∧ Fz Q H1 (rgV a b)
theorem peF_tupRg {e : Expr} {te : L2.St → Hp → (Int → Int → Hp → Prop) → Prop} {p pos : Pos} (hc : X.calm = true) (hg : Gl X "tuple") (hm : X.mg "tuple" = none) (he : PRg X e te) (na : starEach [e] X.env = (false, eval e X.env) :: starEach [] X.env := by rfl) : PE X (.Call (.Name "tuple" p) [e] [] pos) (tTupRgF te) := by
  refine ⟨fun pins s σ H Q I h => ?_⟩
  refine Call_ (ld_blt I hg hm boot_tuple (PyProof.Rows.callWith_type1 (args_cons (thn (he pins s σ H _ I h) fun x s1 ⟨r, a, b, t, u, v, H1, ex, hr, I1, ok, q⟩ => args_nil ?_) na) na))
  subst ex
  obtain ⟨b1, b2, b3, b4, b5⟩ := ok
  refine call_tuple_range (n := (b - a).toNat) (I1.ok.hd hc) hr (small_one b1 b2 b3 b4) (rangeSize_nat a b) b5 fun h' tk acc hk hi => ?_
  have I2 : Inv X pins σ H1 { s1 with heap := h', toks := tk } := I1.kept hk
  have := laidF (t := tk) (us := acc.toList) I2 (by rw [rgV_length, sizeLine_eq]; omega) (vals_rg hi) q
  rwa [Array.toArray_toList] at this
/-- t * 1 is t -/
theorem mul_one_same (l : Addr) (items : Array Value) (n : Nat) (sl : Array (Option Value)) (dd : Option Addr) (u : Tok) :
    Meets (Builtin.«tuple.__mul__» ⟨[.ref l, .int 1 u], []⟩) (fun _ R s => s.heap.get? l = some { cls := .type "tuple", dict := dd, data := .seq items n, slots := sl } ∧ R (.ok (.ret (.ref l))) s) := .of_wp fun prog w A R s h => by
  obtain ⟨hp, g, d, tk, os⟩ := s
  obtain ⟨hl, h⟩ := h
  have idx := AutoSeq1.idx_int
  wp_walk using wpAny_loadPart' hl
  have one : (items.isEmpty || (1 : Int) == 1) = true := by
    rw [show ((1 : Int) == 1) = true from rfl, Bool.or_true]
  repeat (first
    | (refine wpAny_ite_false (by decide) ?_; wp_walk using wpAny_loadPart' hl)
    | (refine wpAny_ite_true one ?_; wp_walk using wpAny_loadPart' hl))
  exact ⟨_, rfl, h⟩
def rRep1 (K : PySem.W.Frag) : R2 := fun x y H Q => ∃ l xs, x = .ref l ∧ y = .int 1 ∧ SqT K H l xs ∧ Q (.ref l) H
theorem opF_rep1 : OpR X (binaryOp .Mult) (rRep1 X.K) := by
  rintro pins s σ H x y v u Q I rx ry ⟨l, xs, rfl, rfl, hT, q⟩
  cases rx
  obtain ⟨t, rfl⟩ := ry
  obtain ⟨its, r, ⟨⟨cls, dd, data, sl⟩, ho, hc, n, hd⟩, _⟩ := I.tuple hT
  simp only at hc hd
  subst hc hd
  exact wpAny_binaryOp_repeat_ref (T := "tuple") (U := "int") (by decide) ⟨_, ho, rfl⟩ (fun s' => typeIs_int s' 1 t) noFill_tuple_mul F.fills_int_mul F.slot_int_rmul repeat_tuple F.slot_int_index.lookup
    (call_meets F.slot_int_rmul (typeIs_int s 1 t) F.entry_int_rmul (F.args_int_rmul_2 _ _) (int_rmul_tuple 1 t l its.toArray n dd sl)
      ⟨ho, rfl, ⟨_, ho, rfl⟩, call_meets F.slot_tuple_mul ⟨_, ho, rfl⟩ F.entry_tuple_mul (F.args_tuple_mul_2 _ _) (mul_one_same l its.toArray n sl dd t) ⟨ho, .ref l, H, I, rfl, q⟩⟩)
def rRepF (K : PySem.W.Frag) : R2 := fun x y H Q => ∃ l k xs, x = .ref l ∧ y = .int k ∧ SqT K H l xs ∧ xs ≠ [] ∧ 2 ≤ k ∧ k ≤ 1000 ∧ xs.length ≤ 1000 ∧ Fz Q H (List.replicate k.toNat xs).flatten
theorem opF_rep : OpR X (binaryOp .Mult) (rRepF X.K) := by
  intro pins s σ H x y v u Q I rx ry ⟨l, k, xs, ex, ey, hT, hne, h1, h2, hz, q⟩
  subst ex ey
  cases rx
  obtain ⟨t, rfl⟩ := ry
  obtain ⟨its, r, ⟨⟨cls, dd, data, sl⟩, ho, hc, n, hd⟩, _⟩ := I.tuple hT
  simp only at hc hd
  subst hc hd
  have hle := r.length
  have hpos : 0 < xs.length := List.length_pos_iff.mpr hne
  have hi : its.toArray.isEmpty = false := by
    cases its with
    | nil => rw [List.length_nil] at hle; omega
    | cons a b => rfl
  have b1 : k.toNat * xs.length ≤ 1000 * 1000 := Nat.mul_le_mul (by omega) hz
  have b2 : ((xs.length : Nat) : Int) * k ≤ 1000 * k := Int.mul_le_mul_of_nonneg_right (by omega) (by omega)
  have b3 : ((its.toArray.size : Nat) : Int) * k ≤ 1000000 := by rw [List.size_toArray, ← hle]; omega
  have fl : (List.replicate k.toNat its).flatten.length ≤ sizeLine := by rw [PyProof.Rows.lm_len_rep_flat, ← hle, sizeLine_eq]; omega
  refine wpAny_binaryOp_repeat_ref (T := "tuple") (U := "int") (by decide) ⟨_, ho, rfl⟩ (fun s' => typeIs_int s' k t) noFill_tuple_mul F.fills_int_mul F.slot_int_rmul repeat_tuple F.slot_int_index.lookup
    (call_meets F.slot_int_rmul (typeIs_int s k t) F.entry_int_rmul (F.args_int_rmul_2 _ _) (int_rmul_tuple k t l its.toArray n dd sl)
      ⟨ho, rfl, ⟨_, ho, rfl⟩, call_meets F.slot_tuple_mul ⟨_, ho, rfl⟩ F.entry_tuple_mul (F.args_tuple_mul_2 _ _) (tuple_mulW l its.toArray n dd sl k t ?_ ?_ ?_ (by omega) ?_ (by rw [size_rep, List.size_toArray]; exact fl)) ⟨ho, ?_⟩⟩)
  · rw [Bool.or_eq_false_iff]; exact ⟨decide_eq_false (by omega), decide_eq_false (by omega)⟩
  · rw [hi, Bool.false_or]; exact beq_eq_false_iff_ne.mpr (by omega)
  · rw [hi, Bool.or_false]; exact decide_eq_false (by omega)
  · unfold Builtin.Tuple.tupleTooMany
    rw [sizeLine_eq]
    exact decide_eq_false (by omega)
  · rw [size_rep]
    exact laidF (t := s.toks) I (by rw [PyProof.Rows.lm_len_rep_flat, sizeLine_eq]; omega) (r.rep k.toNat) q
end
end PyI

set_option maxRecDepth 100000
/-! PyI, part B: how data lie in the abstract heap. -/
namespace PyI
open PySem PySem.Spec PyProof.Rows L2

/-- a tuple whose object has no dict -/
def SqF (K : PySem.W.Frag) (B : Hp) (a : Addr) (vs : List V) : Prop := ∃ o : Obj, o.dict = none ∧
  (B a = some (.frz o (.tup vs)) ∨ (K.lookup a = some o ∧ o.cls = .type "tuple" ∧ ∃ (its : Array Value) (n : Nat), o.data = .seq its n ∧ its.size ≤ sizeLine ∧ Vals vs its.toList))
theorem SqF.t {K : PySem.W.Frag} {B : Hp} {a : Addr} {vs : List V} (h : SqF K B a vs) : SqT K B a vs := by
  obtain ⟨o, hd, h | ⟨h1, h2, its, n, h3⟩⟩ := h
  · exact .inl (.inr ⟨o, h⟩)
  · exact .inr ⟨o, its, n, h1, h2, h3⟩
theorem SqF.mono {K : PySem.W.Frag} {B B' : Hp} {a : Addr} {vs : List V} (s : Same B B') (h : SqF K B a vs) : SqF K B' a vs := by
  obtain ⟨o, hd, h | h⟩ := h
  · exact ⟨o, hd, .inl (s _ _ h)⟩
  · exact ⟨o, hd, .inr h⟩
theorem SqF.new {K : PySem.W.Frag} {B : Hp} {a : Addr} {vs : List V} {o : Obj} (h : o.dict = none) : SqF K (upd B a (.frz o (.tup vs))) a vs := ⟨o, h, .inl upd_same⟩
/-- the object at a is an error of the class at C, its own dict at od -/
def ErrH (C : Addr) (od : Option Addr) (a : Addr) : HO := .ext fun h => ∃ (oe : Obj) (ws : Array Value), h.get? a = some oe ∧ Zc (.ref C) od oe ∧ oe.data = .fields ws
def ErrD (B : Hp) (od : Option Addr) (ns : List Str) (xs : List V) : Prop := (od = none ∧ ns = [] ∧ xs = []) ∨ ∃ p f x, od = some p ∧ ns = [f] ∧ xs = [x] ∧ B p = some (.xd [(f, x)])
theorem ErrD.mono {B B' : Hp} (s : Same B B') {od : Option Addr} {ns : List Str} {xs : List V} (h : ErrD B od ns xs) : ErrD B' od ns xs := by
  rcases h with h | ⟨p, f, x, h1, h2, h3, h4⟩
  · exact .inl h
  · exact .inr ⟨p, f, x, h1, h2, h3, s _ _ h4⟩
mutual
inductive Rep (K : PySem.W.Frag) (hv : Nat → V) (B : Hp) : V → D → Prop where
  | non : Rep K hv B .non .non
  | bl (b : Bool) : Rep K hv B (.bl b) (.bl b)
  | int (i : Int) : Rep K hv B (.int i) (.int i)
  | str (x : Str) : Rep K hv B (.str x) (.str x)
  | tup {a : Addr} {vs : List V} {ds : List D} : SqF K B a vs → Reps K hv B vs ds → Rep K hv B (.ref a) (.tup ds)
  | lst {a : Addr} {vs : List V} {ds : List D} : B a = some (.lst vs) → Reps K hv B vs ds → Rep K hv B (.ref a) (.lst ds)
  | dic {a : Addr} {kvs : List (L2.Key × V)} {ds : List (L2.Key × D)} : B a = some (.dK kvs) → RepKv K hv B kvs ds → Rep K hv B (.ref a) (.dic ds)
  | han (n : Nat) : Rep K hv B (hv n) (.han n)
  | scr {a : Addr} {ns : List Int} : SqL K B a (ns.map V.int) → Rep K hv B (.ref a) (.scr ns)
  | exo {a C : Addr} {od : Option Addr} {c : Str} {ns : List Str} {xs : List V} {vs : List D} : PySem.W.nsIn K mainGlobals c = some (some (.ref C)) → B a = some (ErrH C od a) → ErrD B od ns xs → Reps K hv B xs vs → Rep K hv B (.ref a) (.obj c ns vs)
inductive Reps (K : PySem.W.Frag) (hv : Nat → V) (B : Hp) : List V → List D → Prop where
  | nil : Reps K hv B [] []
  | cons {v : V} {vs : List V} {d : D} {ds : List D} : Rep K hv B v d → Reps K hv B vs ds → Reps K hv B (v :: vs) (d :: ds)
inductive RepKv (K : PySem.W.Frag) (hv : Nat → V) (B : Hp) : List (L2.Key × V) → List (L2.Key × D) → Prop where
  | nil : RepKv K hv B [] []
  | cons {k : L2.Key} {v : V} {d : D} {kvs : List (L2.Key × V)} {ds : List (L2.Key × D)} : Rep K hv B v d → RepKv K hv B kvs ds → RepKv K hv B ((k, v) :: kvs) ((k, d) :: ds)
end

section
variable {K : PySem.W.Frag} {hv : Nat → V} {B B' : Hp}
theorem sqT_mono (s : Same B B') {a : Addr} {xs : List V} (h : SqT K B a xs) : SqT K B' a xs := by
  rcases h with (h | ⟨o, h⟩) | h
  · exact .inl (.inl (s _ _ h))
  · exact .inl (.inr ⟨o, s _ _ h⟩)
  · exact .inr h
theorem sqL_mono (s : Same B B') {a : Addr} {xs : List V} (h : SqL K B a xs) : SqL K B' a xs := by
  rcases h with (h | ⟨o, h⟩) | h
  · exact .inl (.inl (s _ _ h))
  · exact .inl (.inr ⟨o, s _ _ h⟩)
  · exact .inr h
mutual
theorem Rep.mono (s : Same B B') : ∀ (d : D) (v : V), Rep K hv B v d → Rep K hv B' v d
  | .non, _, h => by cases h; exact .non
  | .bl b, _, h => by cases h; exact .bl b
  | .int b, _, h => by cases h; exact .int b
  | .str b, _, h => by cases h; exact .str b
  | .han n, _, h => by cases h; exact .han n
  | .scr n, _, h => by
    cases h with
    | scr a => exact .scr (sqL_mono s a)
  | .obj c ns vs, _, h => by
    cases h with
    | exo a b e r => exact .exo a (s _ _ b) (e.mono s) (Reps.mono s vs _ r)
  | .tup ds, _, h => by
    cases h with
    | tup a r => exact .tup (a.mono s) (Reps.mono s ds _ r)
  | .lst ds, _, h => by
    cases h with
    | lst a r => exact .lst (s _ _ a) (Reps.mono s ds _ r)
  | .dic ds, _, h => by
    cases h with
    | dic a r => exact .dic (s _ _ a) (RepKv.mono s ds _ r)
theorem Reps.mono (s : Same B B') : ∀ (d : List D) (v : List V), Reps K hv B v d → Reps K hv B' v d
  | [], _, h => by cases h; exact .nil
  | d :: ds, _, h => by
    cases h with
    | cons a r => exact .cons (Rep.mono s d _ a) (Reps.mono s ds _ r)
theorem RepKv.mono (s : Same B B') : ∀ (d : List (L2.Key × D)) (v : List (L2.Key × V)), RepKv K hv B v d → RepKv K hv B' v d
  | [], _, h => by cases h; exact .nil
  | (k, d) :: ds, _, h => by
    cases h with
    | cons a r => exact .cons (Rep.mono s d _ a) (RepKv.mono s ds _ r)
end
theorem Reps.length : ∀ {vs : List V} {ds : List D}, Reps K hv B vs ds → vs.length = ds.length
  | _, _, .nil => rfl
  | _, _, .cons _ t => by simp only [List.length_cons, Reps.length t]
theorem RepKv.length : ∀ {vs : List (L2.Key × V)} {ds : List (L2.Key × D)}, RepKv K hv B vs ds → vs.length = ds.length
  | _, _, .nil => rfl
  | _, _, .cons _ t => by simp only [List.length_cons, RepKv.length t]
theorem Reps.append : ∀ {vs ws : List V} {ds es : List D}, Reps K hv B vs ds → Reps K hv B ws es → Reps K hv B (vs ++ ws) (ds ++ es)
  | _, _, _, _, .nil, h => h
  | _, _, _, _, .cons a t, h => .cons a (Reps.append t h)
theorem Reps.get : ∀ {vs : List V} {ds : List D} {i : Nat} {d : D}, Reps K hv B vs ds → ds[i]? = some d → ∃ v, vs[i]? = some v ∧ Rep K hv B v d
  | _, _, _, _, .nil, e => by simp at e
  | _, _, 0, _, .cons r _, e => by simp at e; subst e; exact ⟨_, rfl, r⟩
  | _, _, i + 1, d, .cons _ t, e => by
    obtain ⟨v, h1, h2⟩ := Reps.get (i := i) (d := d) t (by simpa using e)
    exact ⟨v, by simpa using h1, h2⟩
theorem Reps.getV : ∀ {vs : List V} {ds : List D} {i : Nat} {v : V}, Reps K hv B vs ds → vs[i]? = some v → ∃ d, ds[i]? = some d ∧ Rep K hv B v d
  | _, _, _, _, .nil, e => by simp at e
  | _, _, 0, _, .cons r _, e => by simp at e; subst e; exact ⟨_, rfl, r⟩
  | _, _, i + 1, d, .cons _ t, e => by
    obtain ⟨v, h1, h2⟩ := Reps.getV (i := i) (v := d) t (by simpa using e)
    exact ⟨v, by simpa using h1, h2⟩
theorem Reps.take : ∀ {vs : List V} {ds : List D} (n : Nat), Reps K hv B vs ds → Reps K hv B (vs.take n) (ds.take n)
  | _, _, 0, _ => .nil
  | _, _, _ + 1, .nil => .nil
  | _, _, n + 1, .cons r t => .cons r (Reps.take n t)
theorem Reps.drop : ∀ {vs : List V} {ds : List D} (n : Nat), Reps K hv B vs ds → Reps K hv B (vs.drop n) (ds.drop n)
  | _, _, 0, r => r
  | _, _, _ + 1, .nil => .nil
  | _, _, n + 1, .cons _ t => Reps.drop n t
theorem Reps.reverse : ∀ {vs : List V} {ds : List D}, Reps K hv B vs ds → Reps K hv B vs.reverse ds.reverse
  | _, _, .nil => .nil
  | _, _, .cons r t => by
    rw [List.reverse_cons, List.reverse_cons]
    exact Reps.append (Reps.reverse t) (.cons r .nil)
theorem Reps.set {v : V} {d : D} (r : Rep K hv B v d) : ∀ {vs : List V} {ds : List D} (i : Nat), Reps K hv B vs ds → Reps K hv B (vs.set i v) (ds.set i d)
  | _, _, _, .nil => .nil
  | _, _, 0, .cons _ t => .cons r t
  | _, _, i + 1, .cons q t => .cons q (Reps.set r i t)
theorem Reps.eraseIdx : ∀ {vs : List V} {ds : List D} (i : Nat), Reps K hv B vs ds → Reps K hv B (vs.eraseIdx i) (ds.eraseIdx i)
  | _, _, _, .nil => .nil
  | _, _, 0, .cons _ t => t
  | _, _, i + 1, .cons q t => .cons q (Reps.eraseIdx i t)
theorem Reps.rep : ∀ (n : Nat) {vs : List V} {ds : List D}, Reps K hv B vs ds → Reps K hv B (List.replicate n vs).flatten (List.replicate n ds).flatten
  | 0, _, _, _ => .nil
  | n + 1, _, _, h => by
    rw [List.replicate_succ, List.replicate_succ, List.flatten_cons, List.flatten_cons]
    exact Reps.append h (Reps.rep n h)
theorem Reps.intsD : ∀ {vs : List V} {ds : List D} {ns : List Int}, Reps K hv B vs ds → PyI.intsD ds = some ns → vs = ns.map V.int
  | _, _, _, .nil, e => by
    cases e; rfl
  | _, _, ns, .cons (d := d) (ds := ds) r t, e => by
    cases d with
    | int i =>
      cases r
      simp only [PyI.intsD, Option.map_eq_some_iff] at e
      obtain ⟨m, e, rfl⟩ := e
      rw [Reps.intsD t e]; rfl
    | _ => simp [PyI.intsD] at e
theorem Reps.boolsD : ∀ {vs : List V} {ds : List D} {ns : List Bool}, Reps K hv B vs ds → PyI.boolsD ds = some ns → vs = ns.map V.bl
  | _, _, _, .nil, e => by
    cases e; rfl
  | _, _, ns, .cons (d := d) (ds := ds) r t, e => by
    cases d with
    | bl i =>
      cases r
      simp only [PyI.boolsD, Option.map_eq_some_iff] at e
      obtain ⟨m, e, rfl⟩ := e
      rw [Reps.boolsD t e]; rfl
    | _ => simp [PyI.boolsD] at e
theorem Reps.strsD : ∀ {vs : List V} {ds : List D} {ns : List Str}, Reps K hv B vs ds → PyI.strsD ds = some ns → vs = ns.map V.str
  | _, _, _, .nil, e => by
    cases e; rfl
  | _, _, ns, .cons (d := d) (ds := ds) r t, e => by
    cases d with
    | str i =>
      cases r
      simp only [PyI.strsD, Option.map_eq_some_iff] at e
      obtain ⟨m, e, rfl⟩ := e
      rw [Reps.strsD t e]; rfl
    | _ => simp [PyI.strsD] at e
theorem Reps.ofInts : ∀ ns : List Int, Reps K hv B (ns.map V.int) (ns.map D.int)
  | [] => .nil
  | n :: r => .cons (.int n) (Reps.ofInts r)
end

/-- what is shared and may be changed: where (U), and what it is -/
structure Gho where
  K : PySem.W.Frag
  hv : Nat → V
  U : Addr → Prop
  rep : D → Hp → Prop
  has : ∀ γ H a, rep γ H → U a → H a ≠ none
  stay : ∀ γ H H', rep γ H → (∀ a, U a → H' a = H a) → rep γ H'
  er : List Str → Str → Addr → Option Addr → Prop := fun _ _ _ _ => False

/-- from the values' part B of H on to B' of H' -/
structure Ext (U : Addr → Prop) (B H B' H' : Hp) : Prop where
  b : Same B B'
  s : Same B' H'
  new : ∀ a o, B' a = some o → B a = some o ∨ (B a = none ∧ H a = none)
  keep : ∀ a o, H a = some o → ¬ U a → H' a = some o
  uk : ∀ a, U a → H a ≠ none → H' a ≠ none

section
variable {U : Addr → Prop} {B H B' H' B'' H'' : Hp}
theorem Ext.refl (s : Same B H) : Ext U B H B H := ⟨Same.refl _, s, fun _ _ h => .inl h, fun _ _ h _ => h, fun _ _ h => h⟩
theorem Ext.trans (x : Ext U B H B' H') (y : Ext U B' H' B'' H'') : Ext U B H B'' H'' where
  b := x.b.trans y.b
  s := y.s
  new := fun a o h => by
    rcases y.new a o h with h1 | ⟨h1, h2⟩
    · exact x.new a o h1
    · have hb : B a = none := x.b.free h1
      refine .inr ⟨hb, ?_⟩
      cases e : H a with
      | none => rfl
      | some u =>
        by_cases hu : U a
        · exact absurd h2 (x.uk a hu (by rw [e]; exact fun z => nomatch z))
        · have := x.keep a u e hu
          rw [this] at h2; cases h2
  keep := fun a o h hu => y.keep a o (x.keep a o h hu) hu
  uk := fun a hu h => y.uk a hu (x.uk a hu h)
/-- a new object that is no value yet -/
theorem Ext.alloc (s : Same B H) {p : Addr} {o : HO} (hp : H p = none) : Ext U B H B (upd H p o) where
  b := Same.refl _
  s := fun a u h => by
    have := s a u h
    rw [upd_ne (ne_of_none this hp)]; exact this
  new := fun _ _ h => .inl h
  keep := fun a u h _ => by rw [upd_ne (ne_of_none h hp)]; exact h
  uk := fun a _ h => by
    cases e : H a with
    | none => exact absurd e h
    | some u => rw [upd_ne (ne_of_none e hp), e]; exact fun z => nomatch z
/-- .. that is one -/
theorem Ext.allocB (s : Same B H) {p : Addr} {o : HO} (hp : H p = none) : Ext U B H (upd B p o) (upd H p o) where
  b := fun a u h => by
    rw [upd_ne (ne_of_none (s a u h) hp)]; exact h
  s := fun a u h => by
    by_cases e : a = p
    · subst e; rw [upd_same] at h ⊢; exact h
    · rw [upd_ne e] at h ⊢; exact s a u h
  new := fun a u h => by
    by_cases e : a = p
    · subst e; exact .inr ⟨s.free hp, hp⟩
    · rw [upd_ne e] at h; exact .inl h
  keep := fun a u h _ => by rw [upd_ne (ne_of_none h hp)]; exact h
  uk := fun a _ h => by
    cases e : H a with
    | none => exact absurd e h
    | some u => rw [upd_ne (ne_of_none e hp), e]; exact fun z => nomatch z
/-- an object of the heap that is no value becomes one -/
theorem Ext.adopt (x : Ext U B H B' H') {p : Addr} {o : HO} (hp : H p = none) (hb : B' p = none) (ho : H' p = some o) : Ext U B H (upd B' p o) H' where
  b := fun a u h => by
    have := x.b a u h
    rw [upd_ne (ne_of_none this hb)]; exact this
  s := fun a u h => by
    by_cases e : a = p
    · subst e; rw [upd_same] at h; rw [ho]; exact h
    · rw [upd_ne e] at h; exact x.s a u h
  new := fun a u h => by
    by_cases e : a = p
    · subst e; exact .inr ⟨x.b.free hb, hp⟩
    · rw [upd_ne e] at h; exact x.new a u h
  keep := x.keep
  uk := x.uk
theorem same_adopt {p : Addr} {o : HO} (hb : B p = none) : Same B (upd B p o) := fun a u h => by
  rw [upd_ne (ne_of_none h hb)]; exact h
end
theorem Gho.stayE (C : Gho) {γ : D} {H : Hp} {p : Addr} {o : HO} (h : C.rep γ H) (hp : H p = none) : C.rep γ (upd H p o) :=
  C.stay γ H _ h fun a hu => upd_ne fun e => C.has γ H a h hu (by rw [e]; exact hp)

/-- a value, or a list or dict of a slot's own -/
def RepB (C : Gho) (B H : Hp) (v : V) (d : D) : Prop :=
  Rep C.K C.hv B v d ∨ (∃ l vs xs, v = .ref l ∧ d = .lst xs ∧ H l = some (.lst vs) ∧ ¬ C.U l ∧ Reps C.K C.hv B vs xs) ∨
    ∃ l kvs ks, v = .ref l ∧ d = .dic ks ∧ H l = some (.dK kvs) ∧ ¬ C.U l ∧ RepKv C.K C.hv B kvs ks
/-- .. a new one -/
def RepF (C : Gho) (H B' H' : Hp) (v : V) (d : D) : Prop := match d with
  | .lst xs => ∃ l vs, v = .ref l ∧ H l = none ∧ B' l = none ∧ H' l = some (.lst vs) ∧ Reps C.K C.hv B' vs xs
  | .dic ks => ∃ l kvs, v = .ref l ∧ H l = none ∧ B' l = none ∧ H' l = some (.dK kvs) ∧ RepKv C.K C.hv B' kvs ks
  | d => Rep C.K C.hv B' v d
inductive Kd where
  | fresh | clean | borrow
  deriving DecidableEq
def RV (C : Gho) (k : Kd) (H B' H' : Hp) (v : V) (d : D) : Prop := match k with
  | .fresh => RepF C H B' H' v d
  | .clean => Rep C.K C.hv B' v d
  | .borrow => RepB C B' H' v d
/-- what must follow -/
def Done (C : Gho) (B H : Hp) (γ : D) (k : Kd) (d : D) (Q : VK) : Prop :=
  ∀ v B' H', Ext C.U B H B' H' → C.rep γ H' → RV C k H B' H' v d → Q v H'
def DoneT (C : Gho) (B H : Hp) (γ : D) (b : Bool) (Q : Bool → Hp → Prop) : Prop :=
  ∀ B' H', Ext C.U B H B' H' → C.rep γ H' → Q b H'
/-- what is stronger -/
def Kd.le : Kd → Kd → Bool
  | .fresh, _ => true
  | .clean, .clean => true
  | .clean, .borrow => true
  | .borrow, .borrow => true
  | _, _ => false
section
variable {C : Gho} {B H B' H' : Hp} {γ : D} {d : D} {v : V} {Q : VK}
theorem Done.of_clean (h : Done C B H γ .clean d Q) : Done C B H γ .fresh d Q := by
  intro v B' H' x g r
  cases d with
  | lst xs =>
    obtain ⟨l, vs, rfl, hl, hb, ho, r⟩ := r
    exact h _ _ _ (x.adopt hl hb ho) g (.lst upd_same (Reps.mono (same_adopt hb) _ _ r))
  | dic ks =>
    obtain ⟨l, vs, rfl, hl, hb, ho, r⟩ := r
    exact h _ _ _ (x.adopt hl hb ho) g (.dic upd_same (RepKv.mono (same_adopt hb) _ _ r))
  | _ => exact h _ _ _ x g r
theorem Done.of_borrow (h : Done C B H γ .borrow d Q) : Done C B H γ .clean d Q := fun v B' H' x g r => h v B' H' x g (.inl r)
theorem Done.le {k k' : Kd} (hk : k'.le k = true) (h : Done C B H γ k d Q) : Done C B H γ k' d Q := by
  cases k <;> cases k' <;> first | exact h | exact h.of_clean | exact h.of_borrow | exact h.of_borrow.of_clean | cases hk
/-- a scalar fits every kind -/
theorem RepF.of_flat {w : V} (hd : flatD d = true) (r : Rep C.K C.hv B' w d) : RepF C H B' H' w d := by
  cases d <;> first | exact r | cases hd
theorem RepB.mono {B2 H2 : Hp} (x : Ext C.U B' H' B2 H2) (h : RepB C B' H' v d) : RepB C B2 H2 v d := by
  rcases h with h | ⟨l, vs, xs, h1, h2, h3, h4, h5⟩ | ⟨l, vs, xs, h1, h2, h3, h4, h5⟩
  · exact .inl (Rep.mono x.b _ _ h)
  · exact .inr (.inl ⟨l, vs, xs, h1, h2, x.keep _ _ h3 h4, h4, Reps.mono x.b _ _ h5⟩)
  · exact .inr (.inr ⟨l, vs, xs, h1, h2, x.keep _ _ h3 h4, h4, RepKv.mono x.b _ _ h5⟩)
theorem RepB.int {i : Int} (h : RepB C B H v (.int i)) : v = .int i := by
  rcases h with h | ⟨_, _, _, _, h, _⟩ | ⟨_, _, _, _, h, _⟩
  · cases h; rfl
  · cases h
  · cases h
theorem RepB.bl {i : Bool} (h : RepB C B H v (.bl i)) : v = .bl i := by
  rcases h with h | ⟨_, _, _, _, h, _⟩ | ⟨_, _, _, _, h, _⟩
  · cases h; rfl
  · cases h
  · cases h
theorem RepB.str {i : Str} (h : RepB C B H v (.str i)) : v = .str i := by
  rcases h with h | ⟨_, _, _, _, h, _⟩ | ⟨_, _, _, _, h, _⟩
  · cases h; rfl
  · cases h
  · cases h
theorem RepB.non (h : RepB C B H v .non) : v = .non := by
  rcases h with h | ⟨_, _, _, _, h, _⟩ | ⟨_, _, _, _, h, _⟩
  · cases h; rfl
  · cases h
  · cases h
theorem RepB.scr {ns : List Int} (s : Same B H) (h : RepB C B H v (.scr ns)) : ∃ a, v = .ref a ∧ SqL C.K B a (ns.map V.int) ∧ SqL C.K H a (ns.map V.int) := by
  rcases h with h | ⟨_, _, _, _, h, _⟩ | ⟨_, _, _, _, h, _⟩
  · cases h with
    | scr a => exact ⟨_, rfl, a, sqL_mono s a⟩
  · cases h
  · cases h
theorem RepB.tup {xs : List D} (s : Same B H) (h : RepB C B H v (.tup xs)) : ∃ a vs, v = .ref a ∧ SqF C.K B a vs ∧ SqT C.K H a vs ∧ Reps C.K C.hv B vs xs := by
  rcases h with h | ⟨_, _, _, _, h, _⟩ | ⟨_, _, _, _, h, _⟩
  · cases h with
    | tup a r => exact ⟨_, _, rfl, a, (a.mono s).t, r⟩
  · cases h
  · cases h
theorem RepB.lst {xs : List D} (s : Same B H) (h : RepB C B H v (.lst xs)) : ∃ a vs, v = .ref a ∧ H a = some (.lst vs) ∧ Reps C.K C.hv B vs xs := by
  rcases h with h | ⟨l, vs, ys, h1, h, h2, _, h3⟩ | ⟨_, _, _, _, h, _⟩
  · cases h with
    | lst a r => exact ⟨_, _, rfl, s _ _ a, r⟩
  · cases h; exact ⟨l, vs, h1, h2, h3⟩
  · cases h
theorem RepB.dic {xs : List (L2.Key × D)} (s : Same B H) (h : RepB C B H v (.dic xs)) : ∃ a vs, v = .ref a ∧ H a = some (.dK vs) ∧ RepKv C.K C.hv B vs xs := by
  rcases h with h | ⟨_, _, _, _, h, _⟩ | ⟨l, vs, ys, h1, h, h2, _, h3⟩
  · cases h with
    | dic a r => exact ⟨_, _, rfl, s _ _ a, r⟩
  · cases h
  · cases h; exact ⟨l, vs, h1, h2, h3⟩
end
end PyI

set_option maxRecDepth 100000
/-! PyI, part C: the operators. -/
namespace PyI
open PySem PySem.Spec PyProof.Rows L2

section
variable {K : PySem.W.Frag} {hv : Nat → V} {B H : Hp}
theorem flatV_of {v : V} {d : D} (h : flatD d = true) (r : Rep K hv B v d) : flatV v = true := by
  cases r <;> first | rfl | cases h
theorem flats_of : ∀ {vs : List V} {ds : List D}, ds.all flatD = true → Reps K hv B vs ds → vs.all flatV = true
  | _, _, _, .nil => rfl
  | _, _, h, .cons r t => by
    rw [List.all_cons, Bool.and_eq_true] at h
    rw [List.all_cons, Bool.and_eq_true]
    exact ⟨flatV_of h.1 r, flats_of h.2 t⟩
theorem eqV_of {v w : V} {d e : D} (hd : flatD d = true) (he : flatD e = true) (r : Rep K hv B v d) (q : Rep K hv B w e) : eqV v w = eqvD d e := by
  cases r <;> first | (cases hd; done) | (cases q <;> first | (cases he; done) | rfl | (simp only [eqV, eqvD, toPy, PyData.eqv]; done))
theorem anyEq_of {w : V} {e : D} (he : flatD e = true) (q : Rep K hv B w e) : ∀ {vs : List V} {ds : List D}, ds.all flatD = true → Reps K hv B vs ds → (vs.any fun y => eqV y w) = ds.any fun y => eqvD y e
  | _, _, _, .nil => rfl
  | _, _, h, .cons r t => by
    rw [List.all_cons, Bool.and_eq_true] at h
    rw [List.any_cons, List.any_cons, anyEq_of he q h.2 t, eqV_of h.1 he r q]
mutual
theorem Rep.dp (s : Same B H) : ∀ (d : D) (v : V), Rep K hv B v d → plain d = true → (toPy d).canLay0 = true → Dp K H v (toPy d)
  | .non, _, h, _, _ => by cases h; exact .non
  | .bl b, _, h, _, _ => by cases h; exact .bl b
  | .int b, _, h, _, _ => by cases h; exact .int b
  | .str b, _, h, _, _ => by cases h; exact .str b
  | .han n, _, h, p, _ => by cases p
  | .scr n, _, h, p, _ => by cases p
  | .obj _ _ _, _, h, p, _ => by cases p
  | .tup ds, _, h, p, c => by
    cases h with
    | tup a r => exact .tup (a.mono s).t (Reps.dp s ds _ r (by simpa only [plain] using p) (by simpa only [toPy, PyData.canLay0] using c))
  | .lst ds, _, h, p, c => by
    cases h with
    | lst a r => exact .lst (SqL.of (s _ _ a)) (Reps.dp s ds _ r (by simpa only [plain] using p) (by simpa only [toPy, PyData.canLay0] using c))
  | .dic ds, _, h, p, c => by simp [toPy, PyData.canLay0] at c
theorem Reps.dp (s : Same B H) : ∀ (d : List D) (v : List V), Reps K hv B v d → plains d = true → PyData.canLayAll0 (toPys d) = true → DpAll K H v (toPys d)
  | [], _, h, _, _ => by cases h; exact .nil
  | d :: ds, _, h, p, c => by
    cases h with
    | cons a r =>
      have p' : plain d = true ∧ plains ds = true := by simpa only [plains, Bool.and_eq_true] using p
      have c' : (toPy d).canLay0 = true ∧ PyData.canLayAll0 (toPys ds) = true := by simpa only [toPys, PyData.canLayAll0, Bool.and_eq_true] using c
      exact .cons (Rep.dp s d _ a p'.1 c'.1) (Reps.dp s ds _ r p'.2 c'.2)
end
end
section
variable {C : Gho} {B H : Hp} {v : V} {d : D}
theorem RepB.dp (s : Same B H) (h : RepB C B H v d) (p : plain d = true) (c : SeqAt.shaped (toPy d) = true) : Dp C.K H v (toPy d) := by
  have c := SeqAt.canLay_of_shaped c
  rcases h with h | ⟨l, vs, xs, rfl, rfl, h3, h4, h5⟩ | ⟨l, vs, xs, rfl, rfl, h3, h4, h5⟩
  · exact Rep.dp s _ _ h p c
  · exact .lst (SqL.of h3) (Reps.dp s _ _ h5 (by simpa only [plain] using p) (by simpa only [toPy, PyData.canLay0] using c))
  · simp [toPy, PyData.canLay0] at c
theorem RepB.flat (h : RepB C B H v d) (f : flatD d = true) : Rep C.K C.hv B v d := by
  rcases h with h | ⟨l, vs, xs, rfl, rfl, h3, h4, h5⟩ | ⟨l, vs, xs, rfl, rfl, h3, h4, h5⟩
  · exact h
  · cases f
  · cases f
end

/-! ### dicts -/
section
variable {K : PySem.W.Frag} {hv : Nat → V} {B : Hp}
theorem RepKv.val {k : L2.Key} : ∀ {kvs : List (L2.Key × V)} {ds : List (L2.Key × D)}, RepKv K hv B kvs ds → (valV kvs k = none ∧ valD ds k = none) ∨ ∃ v d, valV kvs k = some v ∧ valD ds k = some d ∧ Rep K hv B v d
  | _, _, .nil => .inl ⟨rfl, rfl⟩
  | _, _, .cons (k := q) r t => by
    unfold valV valD
    rw [List.find?_cons, List.find?_cons]
    by_cases e : q = k
    · have e1 : decide (q = k) = true := decide_eq_true e
      simp only [e1]
      exact .inr ⟨_, _, rfl, rfl, r⟩
    · have e1 : decide (q = k) = false := decide_eq_false e
      simp only [e1]
      exact RepKv.val t
theorem RepKv.any {k : L2.Key} : ∀ {kvs : List (L2.Key × V)} {ds : List (L2.Key × D)}, RepKv K hv B kvs ds → (kvs.any fun kv => decide (kv.1 = k)) = ds.any fun kv => decide (kv.1 = k)
  | _, _, .nil => rfl
  | _, _, .cons r t => by rw [List.any_cons, List.any_cons, RepKv.any t]
theorem RepKv.app {k : L2.Key} {v : V} {d : D} (r : Rep K hv B v d) : ∀ {kvs : List (L2.Key × V)} {ds : List (L2.Key × D)}, RepKv K hv B kvs ds → RepKv K hv B (kvs ++ [(k, v)]) (ds ++ [(k, d)])
  | _, _, .nil => .cons r .nil
  | _, _, .cons q t => .cons q (RepKv.app r t)
theorem RepKv.repl {k : L2.Key} {v : V} {d : D} (r : Rep K hv B v d) : ∀ {kvs : List (L2.Key × V)} {ds : List (L2.Key × D)}, RepKv K hv B kvs ds →
    RepKv K hv B (kvs.map fun kv => if kv.1 = k then (kv.1, v) else kv) (ds.map fun kv => if kv.1 = k then (kv.1, d) else kv)
  | _, _, .nil => .nil
  | _, _, .cons (k := q) a t => by
    rw [List.map_cons, List.map_cons]
    by_cases e : q = k
    · rw [if_pos e, if_pos e]; exact .cons r (RepKv.repl r t)
    · rw [if_neg e, if_neg e]; exact .cons a (RepKv.repl r t)
theorem RepKv.put {k : L2.Key} {v : V} {d : D} (r : Rep K hv B v d) {kvs : List (L2.Key × V)} {ds : List (L2.Key × D)} (h : RepKv K hv B kvs ds) : RepKv K hv B (putK kvs k v) (putD ds k d) := by
  unfold putK putD
  rw [RepKv.any h]
  split
  · exact RepKv.repl r h
  · exact RepKv.app r h
end

section
variable {X : Cx} {C : Gho}
/-- scalars come back as they are -/
theorem Done.flat {B H : Hp} {γ z : D} {v : V} {k : Kd} {Q : VK} (s : Same B H) (g : C.rep γ H) (q : Done C B H γ k z Q) (f : flatD z = true) (r : Rep C.K C.hv B v z) : Q v H := by
  refine q v B H (Ext.refl s) g ?_
  cases k
  · exact RepF.of_flat f r
  · exact r
  · exact .inl r
theorem Done.old {B H : Hp} {γ z : D} {v : V} {Q : VK} (s : Same B H) (g : C.rep γ H) (q : Done C B H γ .clean z Q) (r : Rep C.K C.hv B v z) : Q v H := q v B H (Ext.refl s) g r
theorem Done.newL {B H : Hp} {γ : D} {vs : List V} {zs : List D} {Q : VK} (s : Same B H) (g : C.rep γ H) (q : Done C B H γ .fresh (.lst zs) Q) (r : Reps C.K C.hv B vs zs) : ∀ p, H p = none → Q (.ref p) (upd H p (.lst vs)) := fun p hp =>
  q (.ref p) B _ (Ext.alloc s hp) (C.stayE g hp) ⟨p, vs, rfl, hp, s.free hp, upd_same, r⟩
theorem Done.newT {B H : Hp} {γ : D} {vs : List V} {zs : List D} {k : Kd} {Q : VK} (s : Same B H) (g : C.rep γ H) (q : Done C B H γ k (.tup zs) Q) (r : Reps C.K C.hv B vs zs) : Fz Q H vs := fun p hp o ho => by
  have t : Rep C.K C.hv (upd B p (.frz o (.tup vs))) (.ref p) (.tup zs) := .tup (.new ho) (Reps.mono (same_adopt (s.free hp)) _ _ r)
  refine q (.ref p) (upd B p (.frz o (.tup vs))) _ (Ext.allocB s hp) (C.stayE g hp) ?_
  cases k
  · exact t
  · exact t
  · exact .inl t
theorem Done.oldT {B H : Hp} {γ : D} {v : V} {zs : List D} {k : Kd} {Q : VK} (s : Same B H) (g : C.rep γ H) (q : Done C B H γ k (.tup zs) Q) (r : Rep C.K C.hv B v (.tup zs)) : Q v H := by
  refine q v B H (Ext.refl s) g ?_
  cases k
  · exact r
  · exact r
  · exact .inl r

/-- two operands are there and the operator gives z -/
def rBin (C : Gho) (f : D → D → Option D) (k : Kd) : R2 := fun x y H Q => ∃ (B : Hp) (γ d e z : D), Same B H ∧ C.rep γ H ∧ RepB C B H x d ∧ RepB C B H y e ∧ f d e = some z ∧ Done C B H γ k z Q
def Bo.op : Bo → Operator
  | .add => .Add | .sub => .Sub | .mul => .Mult | .fdiv => .FloorDiv | .mod => .Mod | .pow => .Pow
theorem mul_comm_int {X : Cx} : OpR X (binaryOp .Mult) (rI (fun _ j => -(2 ^ 64) < j ∧ j < 2 ^ 64) fun i j => .int (i * j)) := by
  intro pins s σ H x y v u Q I rx ry h
  obtain ⟨i, j, rfl, rfl, hc, q⟩ := h
  exact op_mul pins s σ H _ _ v u Q I rx ry ⟨i, j, rfl, rfl, .inr hc, q⟩
theorem mulOk_small {x : Str} {k : Int} (l1 : x.length ≤ 1000) (l2 : 0 ≤ k) (l3 : k ≤ 10000) : MulOk x k := by
  refine ⟨by rw [Bool.or_eq_false_iff]; exact ⟨decide_eq_false (by omega), decide_eq_false (by omega)⟩, fun h1 _ h => ?_, fun _ _ => ?_⟩
  · have h2 : (900000000000000 : Int) ≤ (2 ^ 63 - 1) / k := by
      rw [Int.le_ediv_iff_mul_le (by omega)]
      have : (900000000000000 : Int) * k ≤ 900000000000000 * 10000 := Int.mul_le_mul_of_nonneg_left l3 (by decide)
      omega
    omega
  · have h3 : x.length * k.toNat ≤ 1000 * 10000 := Nat.mul_le_mul l1 (by omega)
    unfold Builtin.Str.tooLong
    exact decide_eq_false (by have := sizeLine_eq; simp only [sizeLine_eq]; omega)
theorem bin_ok (hK : C.K = X.K) (op : Bo) : OpR X (binaryOp op.op) (rBin C (binF op) .fresh) := by
  intro pins s σ H x y v u Q I rx ry h
  obtain ⟨B, γ, d, e, z, sm, g, hx, hy, hz, q⟩ := h
  unfold binF at hz
  split at hz
  · cases hz; cases hx.int; cases hy.int
    exact op_add pins s σ H _ _ v u Q I rx ry ⟨_, _, rfl, rfl, q.flat sm g rfl (.int _)⟩
  · split at hz
    · rename_i hl
      cases hz; cases hx.str; cases hy.str
      exact op_add_str pins s σ H _ _ v u Q I rx ry ⟨_, _, rfl, rfl, hl, q.flat sm g rfl (.str _)⟩
    · cases hz
  · split at hz
    · rename_i hl
      cases hz
      obtain ⟨a, vs, rfl, ha, ra⟩ := hx.lst sm
      obtain ⟨b, ws, rfl, hb, rb⟩ := hy.lst sm
      exact op_cat pins s σ H _ _ v u Q I rx ry ⟨_, _, _, _, rfl, rfl, ha, hb, by rw [ra.length, rb.length]; exact hl, q.newL sm g (ra.append rb)⟩
    · cases hz
  · split at hz
    · rename_i hl
      cases hz
      obtain ⟨a, vs, rfl, ha0, ha, ra⟩ := hx.tup sm
      obtain ⟨b, ws, rfl, hb0, hb, rb⟩ := hy.tup sm
      refine opF_cat pins s σ H _ _ v u Q I rx ry ⟨_, _, _, _, rfl, rfl, hK ▸ ha, hK ▸ hb, by rw [ra.length, rb.length]; exact hl, fun e => ?_, fun _ e => ?_, fun _ _ => ?_⟩
      · subst e
        cases ra
        exact q.oldT sm g (.tup hb0 rb)
      · subst e
        cases rb
        rw [List.append_nil] at q
        exact q.oldT sm g (.tup ha0 ra)
      · exact q.newT sm g (ra.append rb)
    · cases hz
  · cases hz; cases hx.int; cases hy.int
    exact op_sub pins s σ H _ _ v u Q I rx ry ⟨_, _, rfl, rfl, q.flat sm g rfl (.int _)⟩
  · split at hz
    · rename_i hl
      cases hz; cases hx.int; cases hy.int
      exact op_mul pins s σ H _ _ v u Q I rx ry ⟨_, _, rfl, rfl, hl, q.flat sm g rfl (.int _)⟩
    · cases hz
  · split at hz
    · rename_i hl
      cases hz; cases hy.int
      obtain ⟨a, vs, rfl, ha, ra⟩ := hx.lst sm
      exact op_rep pins s σ H _ _ v u Q I rx ry ⟨_, _, _, rfl, rfl, ha, hl.1, hl.2.1, by rw [ra.length]; exact hl.2.2, q.newL sm g (Reps.rep _ ra)⟩
    · cases hz
  · split at hz
    · rename_i h1
      subst h1
      cases hz; cases hy.int
      rcases hx with hx | ⟨_, _, _, _, h, _⟩ | ⟨_, _, _, _, h, _⟩
      · cases hx with
        | tup ha ra => exact opF_rep1 pins s σ H _ _ v u Q I rx ry ⟨_, _, rfl, rfl, hK ▸ (ha.mono sm).t, q.oldT sm g (.tup ha ra)⟩
      · cases h
      · cases h
    split at hz
    · rename_i hl
      cases hz; cases hy.int
      obtain ⟨a, vs, rfl, ha0, ha, ra⟩ := hx.tup sm
      refine opF_rep pins s σ H _ _ v u Q I rx ry ⟨_, _, _, rfl, rfl, hK ▸ ha, fun e => ?_, hl.2.1, hl.2.2.1, by rw [ra.length]; exact hl.2.2.2, q.newT sm g (Reps.rep _ ra)⟩
      subst e
      cases ra
      exact hl.1 rfl
    · cases hz
  · split at hz
    · rename_i hl
      cases hz; cases hy.int; cases hx.str
      obtain ⟨tx, rfl⟩ := rx
      obtain ⟨ty, rfl⟩ := ry
      obtain ⟨l1, l2, l3⟩ := hl
      refine SB.mul (mulOk_small l1 l2 l3) fun t' kk => ⟨.str _, H, I.tok _, ⟨_, rfl⟩, q.flat sm g rfl (.str _)⟩
    · cases hz
  · split at hz
    · rename_i hl
      cases hz; cases hx.int; cases hy.int
      exact op_fdivN pins s σ H _ _ v u Q I rx ry ⟨_, _, rfl, rfl, hl, q.flat sm g rfl (.int _)⟩
    · cases hz
  · split at hz
    · rename_i hl
      cases hz; cases hx.int; cases hy.int
      exact op_modN pins s σ H _ _ v u Q I rx ry ⟨_, _, rfl, rfl, hl, q.flat sm g rfl (.int _)⟩
    · cases hz
  · split at hz
    · rename_i hl
      cases hz; cases hx.int; cases hy.int
      exact op_pow pins s σ H _ _ v u Q I rx ry ⟨_, _, rfl, rfl, hl, q.flat sm g rfl (.int _)⟩
    · cases hz
  · cases hz

def Co.op : Co → CmpOp
  | .eq => .Eq | .ne => .NotEq | .lt => .Lt | .le => .LtE | .gt => .Gt | .ge => .GtE | .is => .Is | .isnot => .IsNot | .isin => .In | .notin => .NotIn
def rCmp (C : Gho) (op : Co) : R2 := fun x y H Q => ∃ (B : Hp) (γ d e : D) (b : Bool), Same B H ∧ C.rep γ H ∧ RepB C B H x d ∧ RepB C B H y e ∧ cmpF op d e = some b ∧ Q (.bl b) H
theorem eqF_some {a b : D} {r : Bool} (h : eqF a b = some r) : (∃ x y, a = .str x ∧ b = .str y ∧ r = decide (x = y)) ∨ (∃ xs ys, a = .tup xs ∧ b = .tup ys ∧ (xs = [] ∨ ys = []) ∧ r = (xs.isEmpty && ys.isEmpty)) ∨ (lenNe a b = true ∧ r = false) ∨ (plain a = true ∧ plain b = true ∧ SeqAt.shaped (toPy a) = true ∧ SeqAt.shaped (toPy b) = true ∧ r = PyData.eqv (toPy a) (toPy b)) := by
  unfold eqF at h
  split at h
  · rename_i r' hc
    cases h
    unfold strEq at hc
    split at hc
    · cases hc; exact .inl ⟨_, _, rfl, rfl, rfl⟩
    · cases hc
  · split at h
    · rename_i r' hc
      cases h
      unfold nilT at hc
      split at hc
      · cases hc; exact .inr (.inl ⟨_, _, rfl, rfl, .inr rfl, by rw [List.isEmpty_nil, Bool.and_true]⟩)
      · cases hc; exact .inr (.inl ⟨_, _, rfl, rfl, .inl rfl, rfl⟩)
      · cases hc
    · split at h
      · rename_i hc
        exact .inr (.inr (.inl ⟨hc, (Option.some.inj h).symm⟩))
      · split at h
        · rename_i hc
          simp only [Bool.and_eq_true] at hc
          exact .inr (.inr (.inr ⟨hc.1.1.1, hc.1.1.2, hc.1.2, hc.2, (Option.some.inj h).symm⟩))
        · cases h
theorem tup_empty {a b : D} {B H : Hp} {x y : V} {v u : Value} {pins : List (Addr × Obj)} {σ : L2.St} {s : Shared} {xs ys : List D} (I : Inv X pins σ H s) (hK : C.K = X.K) (sm : Same B H) (hx : RepB C B H x (.tup xs)) (hy : RepB C B H y (.tup ys)) (rx : RelV x v) (ry : RelV y u) (h : xs = [] ∨ ys = []) :
    ∃ (l m : Addr) (us vs : Array Value), v = .ref l ∧ u = .ref m ∧ s.heap.IsTuple l us ∧ s.heap.IsTuple m vs ∧ us.size = xs.length ∧ vs.size = ys.length := by
  obtain ⟨l, vs, rfl, _, h1, h2⟩ := hx.tup sm
  obtain ⟨m, ws, rfl, _, h3, h4⟩ := hy.tup sm
  obtain ⟨its, r1, p1, _⟩ := I.tuple (hK ▸ h1)
  obtain ⟨its2, r2, p2, _⟩ := I.tuple (hK ▸ h3)
  refine ⟨l, m, its.toArray, its2.toArray, rx, ry, p1, p2, ?_, ?_⟩
  · rw [List.size_toArray, ← r1.length, h2.length]
  · rw [List.size_toArray, ← r2.length, h4.length]
theorem empties {us vs : Array Value} {xs ys : List D} (h1 : us.size = xs.length) (h2 : vs.size = ys.length) (h : xs = [] ∨ ys = []) : ((List.range (min us.size vs.size)).all (fun _ => true) && us.size == vs.size) = (xs.isEmpty && ys.isEmpty) := by
  rw [h1, h2]
  rcases h with rfl | rfl
  · cases ys <;> simp
  · cases xs <;> simp
theorem str_dec {a b : Str} : decide (V.str a = V.str b) = decide (a = b) := by
  by_cases h : a = b
  · subst h; rw [decide_eq_true rfl, decide_eq_true rfl]
  · rw [decide_eq_false h, decide_eq_false fun e => h (by cases e; rfl)]
/-- lists of different lengths -/
theorem len_differ {a b : D} {B H : Hp} {x y : V} {v u : Value} {pins : List (Addr × Obj)} {σ : L2.St} {s : Shared} (I : Inv X pins σ H s) (sm : Same B H) (hx : RepB C B H x a) (hy : RepB C B H y b) (rx : RelV x v) (ry : RelV y u) (h : lenNe a b = true) :
    ∃ (l m : Addr) (xs ys : Array Value), v = .ref l ∧ u = .ref m ∧ s.heap.IsList l xs ∧ s.heap.IsList m ys ∧ (xs.size != ys.size) = true := by
  cases a <;> first | (cases h; done) | skip
  cases b <;> first | (cases h; done) | skip
  rename_i as bs
  obtain ⟨l, vs, rfl, h1, h2⟩ := hx.lst sm
  obtain ⟨m, ws, rfl, h3, h4⟩ := hy.lst sm
  obtain ⟨its, r1, p1, _⟩ := I.list (SqL.of h1)
  obtain ⟨its2, r2, p2, _⟩ := I.list (SqL.of h3)
  have ne : as.length ≠ bs.length := of_decide_eq_true h
  refine ⟨l, m, its.toArray, its2.toArray, rx, ry, p1.isList, p2.isList, ?_⟩
  have e1 := h2.length
  have e2 := h4.length
  have e3 := r1.length
  have e4 := r2.length
  simp only [List.size_toArray, bne_iff_ne, ne_eq]
  omega
theorem isN_of {B H : Hp} {x : V} {d : D} (h : RepB C B H x d) (hp : plain d = true ∨ ∀ n, C.hv n ≠ .non) : decide (x = V.non) = isNonD d := by
  rcases h with h | ⟨l, vs, xs, rfl, rfl, _⟩ | ⟨l, vs, xs, rfl, rfl, _⟩
  · cases h <;> first | rfl | skip
    rename_i n
    rcases hp with hp | hp
    · cases hp
    · rw [decide_eq_false (hp n)]; rfl
  · rfl
  · rfl
theorem keyed {B H : Hp} {y : V} {d : D} {k : L2.Key} (h : RepB C B H y d) (hk : (d = .int i ∧ k = .inl i) ∨ (d = .str s ∧ k = .inr s)) : y = kV k := by
  rcases hk with ⟨rfl, rfl⟩ | ⟨rfl, rfl⟩
  · exact h.int
  · exact h.str
theorem toPys_any (e : D) : ∀ ds : List D, ((toPys ds).any fun z => PyData.eqv z (toPy e)) = ds.any fun y => eqvD y e
  | [] => rfl
  | d :: ds => by
    simp only [toPys, List.any_cons, toPys_any e ds]
    rfl
theorem in_ok (hK : C.K = X.K) (hn : ∀ n, C.hv n ≠ .non) (hu : X.A.units + 65 < cLine) (neg : Bool) {pins : List (Addr × Obj)} {s : Shared} {σ : L2.St} {H B : Hp} {x y : V} {v u : Value} {Q : VK} {d e : D} {b : Bool}
    (I : Inv X pins σ H s) (rx : RelV x v) (ry : RelV y u) (sm : Same B H) (hx : RepB C B H x d) (hy : RepB C B H y e) (h : inF d e = some b) (q : Q (.bl (if neg then !b else b)) H) :
    wpAny (model X.prog X.w) X.A (compareOp (if neg then .NotIn else .In) v u) (EP X pins σ Q) X.xe s := by
  unfold inF at h
  split at h
  · rename_i ys
    split at h
    · rename_i hc
      simp only [Bool.and_eq_true] at hc
      obtain rfl := Option.some.inj h
      have hd : Dp C.K H x (toPy d) := hx.dp sm hc.1.1.1 hc.1.2
      have he : Dp C.K H y (.list (toPys ys)) := by
        have := hy.dp sm (d := .lst ys) (by simpa only [plain] using hc.1.1.2) (by simpa only [toPy] using hc.2)
        simpa only [toPy] using this
      cases neg
      · exact op_inD hu pins s σ H _ _ v u Q I rx ry ⟨_, _, hK ▸ hd, hK ▸ he, hc.1.2, hc.2, by rw [toPys_any]; exact q⟩
      · exact op_notInD hu pins s σ H _ _ v u Q I rx ry ⟨_, _, hK ▸ hd, hK ▸ he, hc.1.2, hc.2, by rw [toPys_any]; exact q⟩
    · cases h
  · rename_i ys
    split at h
    · rename_i hc
      simp only [Bool.and_eq_true] at hc
      obtain rfl := Option.some.inj h
      obtain ⟨a, vs, rfl, ha0, ha, ra⟩ := hy.tup sm
      have hxr := hx.flat hc.1
      have e1 : inV x vs = ys.any fun y => eqvD y d := anyEq_of hc.1 hxr hc.2 ra
      cases neg
      · exact op_in_seq pins s σ H _ _ v u Q I rx ry ⟨_, _, rfl, .inr (hK ▸ ha), flatV_of hc.1 hxr, flats_of hc.2 ra, by rw [e1]; exact q⟩
      · exact op_notIn_seq pins s σ H _ _ v u Q I rx ry ⟨_, _, rfl, .inr (hK ▸ ha), flatV_of hc.1 hxr, flats_of hc.2 ra, by rw [e1]; exact q⟩
    · cases h
  · rename_i kvs
    obtain ⟨a, vs, rfl, ha, ra⟩ := hy.dic sm
    have main : ∀ k : L2.Key, x = kV k → b = (valD kvs k).isSome → wpAny (model X.prog X.w) X.A (compareOp (if neg then .NotIn else .In) v u) (EP X pins σ Q) X.xe s := by
      intro k ek eb
      subst ek eb
      obtain rfl : u = Value.ref a := ry
      have eo : (valV vs k).isSome = (valD kvs k).isSome := by
        rcases ra.val (k := k) with ⟨h1, h2⟩ | ⟨w, z, h1, h2, _⟩ <;> rw [h1, h2] <;> rfl
      have gd : DGet H a (kV k) (valV vs k) := DGet.k ha
      cases neg
      · exact d_in (by omega) I gd rx fun s' I' => ⟨.bl _, H, I', rfl, by rw [eo]; exact q⟩
      · exact d_notIn (by omega) I gd rx fun s' I' => ⟨.bl _, H, I', rfl, by rw [eo]; exact q⟩
    split at h
    · exact main (.inl _) hx.int (Option.some.inj h).symm
    · exact main (.inr _) hx.str (Option.some.inj h).symm
    · cases h
  · rename_i z
    split at h
    · rename_i c
      obtain rfl := Option.some.inj h
      obtain rfl := hx.str
      obtain rfl := hy.str
      cases neg
      · exact op_in_sign pins s σ H _ _ v u Q I rx ry ⟨_, _, rfl, rfl, q⟩
      · exact op_notIn_sign pins s σ H _ _ v u Q I rx ry ⟨_, _, rfl, rfl, q⟩
    · cases h
  · cases h
theorem cmp_ok (hK : C.K = X.K) (hn : ∀ n, C.hv n ≠ .non) (hu : X.A.units + 65 < cLine) (op : Co) : OpR X (compareOp op.op) (rCmp C op) := by
  intro pins s σ H x y v u Q I rx ry h
  obtain ⟨B, γ, d, e, b, sm, g, hx, hy, hz, q⟩ := h
  unfold cmpF at hz
  split at hz
  · rcases eqF_some hz with ⟨a, b, rfl, rfl, rfl⟩ | ⟨as, bs, rfl, rfl, he, rfl⟩ | ⟨hl, rfl⟩ | ⟨p1, p2, s1, s2, rfl⟩
    · obtain rfl := hx.str
      obtain rfl := hy.str
      refine op_eq pins s σ H _ _ v u Q I rx ry ⟨rfl, ?_⟩
      rw [show decide (V.str a = V.str b) = decide (a = b) from str_dec]
      exact q
    · obtain ⟨l, m, us, vs, rfl, rfl, i1, i2, z1, z2⟩ := tup_empty (a := .non) (b := .non) I hK sm hx hy rx ry he
      refine SeqAt.RcAt.tuples (e := fun _ => true) i1 i2 (by omega) (fun j j1 j2 => ?_) _ _ _ _ ⟨V.bl _, H, I, rfl, ?_⟩
      · rcases he with rfl | rfl
        · rw [z1] at j1; exact absurd j1 (Nat.not_lt_zero _)
        · rw [z2] at j2; exact absurd j2 (Nat.not_lt_zero _)
      · rw [empties z1 z2 he]; exact q
    · obtain ⟨l, m, xs, ys, rfl, rfl, i1, i2, ne⟩ := len_differ I sm hx hy rx ry hl
      exact SeqAt.RcAt.lists_lengths i1 i2 ne (by omega) _ _ _ _ ⟨V.bl _, H, I, rfl, q⟩
    exact op_eqD (by omega) pins s σ H _ _ v u Q I rx ry ⟨_, _, hK ▸ hx.dp sm p1 s1, hK ▸ hy.dp sm p2 s2, s1, s2, q⟩
  · obtain ⟨r, hr, rfl⟩ := Option.map_eq_some_iff.mp hz
    rcases eqF_some hr with ⟨a, b, rfl, rfl, rfl⟩ | ⟨as, bs, rfl, rfl, he, rfl⟩ | ⟨hl, rfl⟩ | ⟨p1, p2, s1, s2, rfl⟩
    · obtain rfl := hx.str
      obtain rfl := hy.str
      refine op_ne pins s σ H _ _ v u Q I rx ry ⟨rfl, ?_⟩
      rw [show decide (V.str a = V.str b) = decide (a = b) from str_dec]
      exact q
    · obtain ⟨l, m, us, vs, rfl, rfl, i1, i2, z1, z2⟩ := tup_empty (a := .non) (b := .non) I hK sm hx hy rx ry he
      refine SeqAt.RcNeAt.tuples (e := fun _ => true) i1 i2 (by omega) (fun j j1 j2 => ?_) _ _ _ _ ⟨V.bl _, H, I, rfl, ?_⟩
      · rcases he with rfl | rfl
        · rw [z1] at j1; exact absurd j1 (Nat.not_lt_zero _)
        · rw [z2] at j2; exact absurd j2 (Nat.not_lt_zero _)
      · rw [empties z1 z2 he]; exact q
    · obtain ⟨l, m, xs, ys, rfl, rfl, i1, i2, ne⟩ := len_differ I sm hx hy rx ry hl
      exact SeqAt.RcNeAt.lists_lengths i1 i2 ne (by omega) _ _ _ _ ⟨V.bl _, H, I, rfl, q⟩
    exact op_neD (by omega) pins s σ H _ _ v u Q I rx ry ⟨_, _, hK ▸ hx.dp sm p1 s1, hK ▸ hy.dp sm p2 s2, s1, s2, q⟩
  · cases hz; cases hx.int; cases hy.int
    exact op_lt pins s σ H _ _ v u Q I rx ry ⟨_, _, rfl, rfl, q⟩
  · cases hz; cases hx.int; cases hy.int
    exact op_le pins s σ H _ _ v u Q I rx ry ⟨_, _, rfl, rfl, q⟩
  · cases hz; cases hx.int; cases hy.int
    exact op_gt pins s σ H _ _ v u Q I rx ry ⟨_, _, rfl, rfl, q⟩
  · cases hz; cases hx.int; cases hy.int
    exact op_ge pins s σ H _ _ v u Q I rx ry ⟨_, _, rfl, rfl, q⟩
  · cases hz; cases hy.non
    refine op_isN pins s σ H _ _ v u Q I rx ry ⟨rfl, ?_⟩
    rw [isN_of hx (.inr hn)]
    exact q
  · cases hz; cases hy.non
    refine op_notN pins s σ H _ _ v u Q I rx ry ⟨rfl, ?_⟩
    rw [isN_of hx (.inr hn)]
    exact q
  · exact in_ok hK hn hu false I rx ry sm hx hy hz q
  · obtain ⟨r, hr, rfl⟩ := Option.map_eq_some_iff.mp hz
    exact in_ok hK hn hu true I rx ry sm hx hy hr q
  · cases hz
end
end PyI

set_option maxRecDepth 100000
/-! PyI, part G: what a def promises where no repr is under way. -/
namespace PyI
open PySem PySem.Spec PyProof.Rows L2

structure FnG (P : Program) (w : World) (K : PySem.W.Frag) (mg : Str → Option Value) (base : Heap) (k : Nat) (f : Addr) (fd : FuncData) (ps : List Str) (sp : Sp) : Prop where
  len : ∀ vs H Q E, sp vs H Q E → vs.length = ps.length
  run : ∀ (A : Around) (outer : List PySem.Env) (s : Shared) (H : Hp) (args : Args) (us : List Value) (vs : List V) (Q : VK) (E : XK), A.guards = some [] → Room k A → Env0 P w K mg base A outer s H →
    BindsTo s fd args (ps.zip us) → Vals vs us → sp vs H Q E → codeAny (model P w) A (.call (.ref f) args) (CR (L2.CX P w) outer P w H s Q E) s
theorem FnG.mono {P : Program} {w : World} {K : PySem.W.Frag} {mg : Str → Option Value} {base : Heap} {j k : Nat} {f : Addr} {fd : FuncData} {ps : List Str} {sp : Sp} (F : FnG P w K mg base j f fd ps sp) (h : j ≤ k) : FnG P w K mg base k f fd ps sp where
  len := F.len
  run := fun A outer s H args us vs Q E hg hr => F.run A outer s H args us vs Q E hg (hr.mono h)
/-- an elder promise is one -/
theorem FnG.of {P : Program} {w : World} {K : PySem.W.Frag} {mg : Str → Option Value} {base : Heap} {k : Nat} {f : Addr} {fd : FuncData} {ps : List Str} {sp : Sp} (F : FnOk P w K mg base (L2.CX P w) k f fd ps sp) : FnG P w K mg base k f fd ps sp where
  len := F.len
  run := fun A outer s H args us vs Q E _ hr => F.run A outer s H args us vs Q E hr

section
variable {P : Program} {w : World} {K : PySem.W.Frag} {mg : Str → Option Value} {base : Heap}
/-- a def, by its body -/
theorem fnG_of {x qual : Str} {st : Stmt} {f : Addr} {fd : FuncData} {N ps : List Str} {k : Nat} {sp : Sp} (F : Fun K x qual st f fd) (S : FnScope N ps (defScope st)) (len : ∀ vs H Q E, sp vs H Q E → vs.length = ps.length)
    (body : ∀ (cdv : Value) (A : Around) (outer : List PySem.Env) (s : Shared) (H : Hp) (vs : List V) (Q : VK) (E : XK), A.guards = some [] → Room k (A.deeper (envOfC qual (defScope st) s.heap.objs.size f cdv)) → sp vs H Q E →
      ∃ t, PSs (cxOf (L2.CX P w) P w K mg base N qual (defScope st) f cdv A outer s H E) (defBody st) t ∧ t { nx := fun _ H' => Q .non H', rt := Q } (start N vs) H) : FnG P w K mg base (k + 1) f fd ps sp := by
  obtain ⟨oc, od, kV, doc, pm, an, cdv, ct, osl, rfl, lk, hcd⟩ := F.ex
  refine ⟨len, ?_⟩
  intro A outer s H args us vs Q E hg hr e0 hb r hsp
  have lim : s.heap.NoLimit := e0.mod.nolimit.keeps fun b o e => (e0.bs b o e).1
  have KX : K.In s.heap := e0.mod.kin.keeps fun b o e => (e0.bs b o e).1
  have hl := len _ _ _ _ hsp
  have kinds : ∀ y ∈ ps.zip us, (defScope st).names.lookup y.1 = some .local ∨
      ((defScope st).names.lookup y.1 = some .cell ∧ ((cellsFrom (s.heap.objs.size + 1) (defScope st).names []).lookup y.1).isSome = true) := by
    rintro ⟨n, v⟩ hy
    rcases S.par n (List.of_mem_zip hy).1 with q | q
    · exact Or.inl q
    · exact Or.inr ⟨q, PySem.W.cellsFrom_some _ _ _ (.inl q)⟩
  refine codeAny_call_function hr.depth (KX _ _ lk) rfl S.co S.gen rfl (PySem.W.codeRec_of KX hcd) (hb _ _ _ _ ?_)
  refine wpAny_newFunctionEnv_cells S.kind kinds ?_
  intro env he s1 x
  subst he
  refine ⟨lim.keeps x.toInCall.keep, codeAny_func ?_⟩
  obtain ⟨t, ht, hq⟩ := body cdv A outer s H vs Q E hg (hr.deeper _) hsp
  have I := inv_start (CX := L2.CX P w) (N := N) (E := E) S hr.hd e0 hl r x
  refine wpAny_mono (ht.run [] s1 (start N vs) H _ I hq) ?_ (fun e s' hs => hs)
  intro fl s' hs
  cases fl with
  | ret u => obtain ⟨v, _, H', J, rv, q⟩ := hs; exact ⟨v, H', J.os, J.bare, J.base, J.hok, rv, q⟩
  | next => obtain ⟨_, H', J, q⟩ := hs; exact ⟨V.non, H', J.os, J.bare, J.base, J.hok, rfl, q⟩
  | brk => obtain ⟨_, _, _, q⟩ := hs; cases q
  | cont => obtain ⟨_, _, _, q⟩ := hs; cases q
end

section
variable {X : Cx} {k : Nat} {f : Addr} {fd : FuncData} {ps : List Str} {sp : Sp} {W : WX}
/-- a promise that is kept at a call -/
theorem runG {pins : List (Addr × Obj)} {σ : L2.St} {H : Hp} {s : Shared} {Q : VK} {us : List Value} {vs : List V} (F : FnG X.prog X.w X.K X.mg X.base k f fd ps sp) (hg : X.A.guards = some []) (hr : Room k X.A) (hb : Binds X.K fd ps []) (tk : Takes X W)
    (I : Inv X pins σ H s) (r : Vals vs us) (h : sp vs H Q fun cls d H' => W cls d σ H') : wpAny (model X.prog X.w) X.A (call (.ref f) us) (EP X pins σ Q) X.xe s := by
  have hl : us.length = ps.length := by rw [← r.length]; exact F.len _ _ _ _ h
  have b := hb s us I.kIn (by rw [List.append_nil]; exact hl)
  rw [List.append_nil] at b
  refine wpAny_call (codeAny_mono (F.run _ _ s H ⟨us, []⟩ us vs Q _ hg hr I.env0 b r h) ?_)
  intro r s' hq
  match r, hq with
  | .error e, hq => exact passAt tk σ pins H s e s' I hq
  | .ok (.ret u), hq => exact I.after hq
  | .ok .next, hq => cases hq
  | .ok .brk, hq => cases hq
  | .ok .cont, hq => cases hq
end

/-- a promise for any arguments that are told by position -/
structure FnH (P : Program) (w : World) (K : PySem.W.Frag) (mg : Str → Option Value) (base : Heap) (k : Nat) (f : Addr) (sp : Sp) : Prop where
  run : ∀ (A : Around) (outer : List PySem.Env) (s : Shared) (H : Hp) (us : List Value) (vs : List V) (Q : VK) (E : XK), A.guards = some [] → Room k A → Env0 P w K mg base A outer s H → Vals vs us → sp vs H Q E →
    codeAny (model P w) A (.call (.ref f) ⟨us, []⟩) (CR (L2.CX P w) outer P w H s Q E) s
theorem runH {X : Cx} {k : Nat} {f : Addr} {sp : Sp} {W : WX} {pins : List (Addr × Obj)} {σ : L2.St} {H : Hp} {s : Shared} {Q : VK} {us : List Value} {vs : List V} (F : FnH X.prog X.w X.K X.mg X.base k f sp) (hg : X.A.guards = some []) (hr : Room k X.A) (tk : Takes X W)
    (I : Inv X pins σ H s) (r : Vals vs us) (h : sp vs H Q fun cls d H' => W cls d σ H') : wpAny (model X.prog X.w) X.A (call (.ref f) us) (EP X pins σ Q) X.xe s := by
  refine wpAny_call (codeAny_mono (F.run _ _ s H us vs Q _ hg hr I.env0 r h) ?_)
  intro r s' hq
  match r, hq with
  | .error e, hq => exact passAt tk σ pins H s e s' I hq
  | .ok (.ret u), hq => exact I.after hq
  | .ok .next, hq => cases hq
  | .ok .brk, hq => cases hq
  | .ok .cont, hq => cases hq
/-- a law's call -/
theorem law_callG {P : Program} {w : World} {K : PySem.W.Frag} {mg mb : Str → Option Value} {k : Nat} {fa a : Addr} {fd : FuncData} {x : Str} {sp : Sp} {s₁ : Shared} {vs : List Value} {ns : List Int}
    (KX : K.In s₁.heap) (hns : s₁.heap.Ns mainGlobals mg) (hb : s₁.heap.Ns builtinsNs mb) (hbb : ∀ x : Str, x ≠ "__name__" → mb x = bootBuiltins x) (hlim : s₁.heap.NoLimit) (hg : s₁.gens = #[])
    (ha : s₁.heap.get? a = some { cls := .type "list", data := .seq vs.toArray }) (hi : IntsAre vs ns) (hl : ns.length ≤ sizeLine) (hr : Room k callerA)
    (F : ∀ base : Heap, K.In base → base.Ns mainGlobals mg → FnG P w K mg base k fa fd [x] sp) (hbind : ∀ (s : Shared) (u : Value), BindsTo s fd ⟨[u], []⟩ [(x, u)])
    (hsp : ∀ H : Hp, Only H → SqL K H a (ns.map V.int) → sp [.ref a] H (fun v _ => v = .bl true) fun _ _ _ => False) :
    codeAny (model P w) callerA (.call (.ref fa) ⟨[.ref a], []⟩) (fun r s' => r = .ok (.ret (.bool true)) ∧ OldK s₁.heap s'.heap ∧ s'.os = s₁.os ∧ AllBare s'.gens) s₁ := by
  have rv := vals_ints hi
  have key : ∀ H : Hp, Only H → SqL K H a (ns.map V.int) → HOk P w H s₁.heap → (∀ b, H b ≠ none → b = a) → (H a ≠ none → K.lookup a = none) →
      codeAny (model P w) callerA (.call (.ref fa) ⟨[.ref a], []⟩) (fun r s' => r = .ok (.ret (.bool true)) ∧ OldK s₁.heap s'.heap ∧ s'.os = s₁.os ∧ AllBare s'.gens) s₁ := by
    intro H hO hS hok hA hK
    have keepD : ∀ {b : Addr} {o : Obj} {es : Array DictEntry} {ep : Nat}, s₁.heap.get? b = some o → o.data = .dict es ep → H b = none := by
      intro b o es ep e d
      by_cases q : H b = none
      · exact q
      · have e' := hA b q
        rw [e', ha] at e
        cases e
        cases (show Data.seq vs.toArray _ = Data.dict es ep from d)
    have nsK : ∀ {b : Addr} {m : Str → Option Value}, s₁.heap.Ns b m → (hidT s₁.heap H).Ns b m := by
      rintro b m ⟨o, es, ep, e, d, r⟩
      exact ⟨o, es, ep, hidT_get e (keepD e d), d, r⟩
    have hKb : K.In (hidT s₁.heap H) := by
      intro b o e
      refine hidT_get (KX b o e) ?_
      by_cases q : H b = none
      · exact q
      · have e' := hA b q
        rw [e'] at q e
        rw [hK q] at e
        cases e
    obtain ⟨mc, hm1, hm2⟩ := hlim
    have e0 : Env0 P w K mg (hidT s₁.heap H) callerA [] s₁ H :=
      { frames := rfl, mod := ⟨hKb, nsK hns, ⟨mb, nsK hb, hbb⟩, ⟨mc, nsK hm1, hm2⟩⟩, bs := fun b o e => of_hidT e, bsz := Nat.le_of_eq (hidT_size _ _), funs := trivial, frf := fun b hb => (by cases hb), hok := hok, bare := .of_eq hg }
    refine codeAny_mono ((F _ hKb (nsK hns)).run callerA [] s₁ H ⟨[.ref a], []⟩ [.ref a] [.ref a] _ _ rfl hr e0 (hbind s₁ (.ref a)) (.cons rfl .nil) (hsp H hO hS)) ?_
    intro r s' h
    match r, h with
    | .error e, h => obtain ⟨_, _, _, _, _, _, _, _, _, _, _, _, z⟩ := h; exact z.elim
    | .ok .next, h => cases h
    | .ok .brk, h => cases h
    | .ok .cont, h => cases h
    | .ok (.ret u), h =>
      obtain ⟨v, H', os, bare, un, hok', r', q⟩ := h
      cases (show v = .bl true from q)
      obtain rfl : u = Value.bool true := r'
      refine ⟨rfl, OldK.of_keep ?_, os, bare⟩
      intro b o e
      cases q : H b with
      | none => exact un.keep b o e q (by intro z; cases z) (by intro z; cases z)
      | some u =>
        rcases hO b with z | ⟨ob, xs, z⟩
        · rw [q] at z; cases z
        · have e1 := (hok b _ z).1
          have e2 := (hok' b _ (un.frzs b ob _ z)).1
          rw [e] at e1; cases e1
          exact e2
  cases hk : K.lookup a with
  | some o =>
    have e := KX a o hk
    rw [ha] at e
    cases e
    have hs : vs.toArray.size ≤ sizeLine := by rw [List.size_toArray, hi.length]; exact hl
    exact key (fun _ => none) (fun _ => .inl rfl) (.inr ⟨_, vs.toArray, _, hk, rfl, rfl, rfl, hs, by simpa using rv⟩) (fun b u z => nomatch (show (none : Option HO) = some u from z)) (fun b z => absurd rfl z) (fun z => absurd rfl z)
  | none =>
    have none_of : ∀ b, b ≠ a → (fun b => if b = a then some (HO.frz { cls := .type "list", data := .seq vs.toArray } (.lst (ns.map V.int))) else none) b = none := fun b hb => if_neg hb
    refine key (fun b => if b = a then some (.frz { cls := .type "list", data := .seq vs.toArray } (.lst (ns.map V.int))) else none) ?_ (.inl (.inr ⟨_, if_pos rfl⟩)) ?_ ?_ (fun _ => hk)
    · intro b
      by_cases hb : b = a
      · exact Or.inr ⟨_, _, if_pos hb⟩
      · exact Or.inl (if_neg hb)
    · intro b u z
      by_cases hb : b = a
      · subst hb
        cases (if_pos rfl).symm.trans z
        exact ⟨ha, by rw [List.length_map]; exact hl, vs, _, rv, ha⟩
      · rw [none_of b hb] at z; cases z
    · intro b z
      by_cases hb : b = a
      · exact hb
      · exact absurd (none_of b hb) z
/-- the end of a law's row -/
theorem walkG {l : PySem.W.OpenLaw} {n k : Nat} {q : Program} {loose : List Str} {XP : (Str → Option Value) → Heap → Prop} {YP : World → Heap → Prop} {d : DefRec} {K : Params → PySem.W.Frag} {sp : World → Sp} {x : Str}
    (hn : l.most = some n) (hn2 : n ≤ sizeLine) (hdf : d.params.defaults = []) (hr : Room k callerA) (hY : ∀ (w : World) (h : Heap), YP w h → (K w.params).In h)
    (F : ∀ (w : World) (mg : Str → Option Value) (fa : Addr) (h : Heap), (K w.params).In h → h.Ns mainGlobals mg → mg d.name = some (.ref fa) →
      ∃ fd : FuncData, (∀ (s : Shared) (u : Value), BindsTo s fd ⟨[u], []⟩ [(x, u)]) ∧ ∀ base : Heap, (K w.params).In base → base.Ns mainGlobals mg → FnG l.prog w (K w.params) mg base k fa fd [x] (sp w))
    (hsp : ∀ (w : World) (H : Hp) (a : Addr) (ns : List Int), ns.length ≤ n → Only H → SqL (K w.params) H a (ns.map V.int) → sp w [.ref a] H (fun v _ => v = .bl true) fun _ _ _ => False) :
    PySem.W.WalkO q loose XP YP l.row.toRowW d [] (fun f vs => PySem.call f vs) := by
  refine Att.attach_call hn hdf ?_
  intro w s₀ s₁ mg mb fa o pm cd doc a vs ns G Y ho hd hcd hmg hobj hints hlen hg
  obtain ⟨fd, hb, hF⟩ := F w mg fa _ (hY w _ Y) G.T.g hmg
  exact law_callG (hY w _ Y) G.T.g G.T.b G.T.builtins G.T.nolimit hg hobj hints (Nat.le_trans hlen hn2) hr hF hb fun H hO hS => hsp w H a ns hlen hO hS
end PyI

set_option maxRecDepth 100000
set_option maxHeartbeats 2000000
/-! PyI, part XC: an error with one field of its own (from the skeleton of such an error, for any class and field name). -/
namespace PySem
namespace ErrX
open PySem.W PySem.Calls PyProof.Rows PySem.HandSPX
/-! ### the text of __init__ -/
def iA (fl : Str) (p1 p2 : Pos) : Arguments := { posonlyargs := [], args := [{ arg := "self", annotation := none, pos := p1 }, { arg := fl, annotation := none, pos := p2 }], vararg := none, kwonlyargs := [], kw_defaults := [], kwarg := none, defaults := [] }
def iB (fl : Str) (q1 q2 q3 q4 : Pos) : List Stmt := [.Assign [.Attribute (.Name "self" q1) fl q2] (.Name fl q3) q4]
def iS (fl : Str) : Scope := { kind := .function, names := [(PySem.Str.ofString "self", .local), (fl, .local)], isGenerator := false, isCoroutine := false, more := [] }
/-- what the written part says of Low, at C, and of its __init__, at fI -/
structure ErrTxt (cn qn fl : Str) (K : Frag) (mg : Str → Option Value) (C fI : Addr) : Prop where
  gC : mg cn = some (.ref C)
  cls : ∃ nm q N bs bm sn sub ab col dd k0 k1 k2 k3 k5, K.lookup C = some (excClassObj nm q C N bs bm true sn sub ab col dd k0 k1 k2 k3 k5 "ValueError.__new__") ∧ refsVE bm = true
  sa : findIn K (.ref C) "__setattr__" = some (some (.builtin "object.__setattr__"))
  ga : findIn K (.ref C) "__getattribute__" = some (some (.builtin "BaseException.__getattribute__"))
  gg : findIn K (.ref C) "__getattr__" = some none
  noN : findIn K (.ref C) fl = some none
  iC : findIn K (.ref C) "__init__" = some (some (.ref fI))
  tC : typeIn K (.ref fI) = some (.type "function")
  kC : keepIn K (.ref C) = true
  exC : subIn K (.ref C) (.type "BaseException") = some true
  tyC : typeIn K (.ref C) = some (.type "type")
  hdC : hasDictIn K C = true
  dbg : (fl == ("__debug__" : Str)) = false
  dbc : (cn == ("__debug__" : Str)) = false
  bnd : ∀ (doc pm : Value) (an : Option Addr) (cdv ct : Value) (p1 p2 q1 q2 q3 q4 : Pos) (x v : Value), bindArgs (fnOf "__init__" qn (iA fl p1 p2) (iB fl q1 q2 q3 q4) (iS fl) .none .none doc pm an cdv ct) ⟨[x, v], []⟩ = pure [(PySem.Str.ofString "self", x), (fl, v)]
  neSelf : fl ≠ ("self" : Str)
  lookF : (iS fl).names.lookup fl = some .local
  fn : ∃ (oc : Value) (od : Option Addr) (doc pm : Value) (an : Option Addr) (cdv ct : Value) (osl : Array (Option Value)) (p1 p2 q1 q2 q3 q4 : Pos),
    K.lookup fI = some ⟨oc, od, .func (fnOf "__init__" qn (iA fl p1 p2) (iB fl q1 q2 q3 q4) (iS fl) .none .none doc pm an cdv ct), osl⟩ ∧ codeIn K cdv qn = true
theorem one_size (v : Value) : [v].length ≤ sizeLine := by
  rw [sizeLine_eq]
  exact (by decide : 1 ≤ 16777216)
theorem kept_but {K : Frag} {h h' : Heap} {x : Addr} (X : K.In h) (hx : K.lookup x = none) (k : ∀ b o, b ≠ x → h.get? b = some o → h'.get? b = some o) : K.In h' := fun a o e =>
  k a o (fun z => by rw [z, hx] at e; cases e) (X a o e)
theorem ldC {M : Model} {s : Shared} {name : Str} {scope : Scope} {L a : Addr} {cd : Value} {m : Str → Option Value} {x : Str} {pos : Pos} {v : Value} {Q : Value → Shared → Prop} {A : Around} {E : Value → Shared → Prop} (hn : s.heap.Ns L m) (hv : m x = some v) (h : Q v s)
    (hk : scope.kind = .function := by rfl) (hl : (envOfC name scope L a cd).kindOf x = some .local := by rfl) (hd : (x == ("__debug__" : Str)) = false := by decide) :
    wpAny M A (eval (.Name x pos) (envOfC name scope L a cd)) Q E s := wpAny_Name (wpAny_loadName_local hk hl hn hv h) hd
/-- what __init__ leaves of a fresh exception at x -/
structure InitEnd (fl : Str) (h h' : Heap) (x C dx t1 : Addr) (v : Value) : Prop where
  keep : ∀ b o, b ≠ x → h.get? b = some o → h'.get? b = some o
  obj : h'.get? x = some { cls := .ref C, dict := some dx, data := .fields #[.ref t1, .none, .none, .none, .bool false, .none] }
  dbig : h.objs.size ≤ dx
  dne : dx ≠ x
  ns : h'.Ns1 dx (fun y => if y = fl then some v else none)
/-- a made error -/
structure OwnMade (fl : Str) (h h' : Heap) (e C d : Addr) (v : Value) : Prop where
  keep : ∀ b o, h.get? b = some o → h'.get? b = some o
  new : h.objs.size ≤ e
  obj : ∃ oe vs, h'.get? e = some oe ∧ oe.cls = .ref C ∧ oe.dict = some d ∧ oe.data = .fields vs ∧ vs[1]? = some .none
  dbig : h.objs.size ≤ d
  dne : d ≠ e
  ns : h'.Ns1 d (fun y => if y = fl then some v else none)
section
variable {prog : Program} {w : World} {A : Around} {E : Value → Shared → Prop} {R : Result → Shared → Prop} {s : Shared} {K : Frag} {mg : Str → Option Value} {C fI : Addr} {cn qn fl : Str}
theorem err_init (T : ErrTxt cn qn fl K mg C fI) {x t0 : Addr} {v : Value} (X : K.In s.heap) (hlim : s.heap.NoLimit) (hx : s.heap.get? x = some (excO C t0)) (hnx : K.lookup x = none) (hroom : A.depth < recursionLimit)
    (hq : ∀ h' tk dx, InitEnd fl s.heap h' x C dx t0 v → R (.ok (.ret .none)) { s with heap := h', toks := tk }) :
    codeAny (model prog w) A (.call (.ref fI) ⟨[.ref x, v], []⟩) R s := by
  obtain ⟨oc, od, doc, pm, an, cdv, ct, osl, p1, p2, q1, q2, q3, q4, ho, hcd⟩ := T.fn
  obtain ⟨nm, q, N, bs, bm, sn, sub, ab, col, dd, k0, k1, k2, k3, k5, hC, hbm⟩ := T.cls
  have hcl : clsIn K C = some { name := nm, bases := bs, mro := .ref C :: bm, ns := N, qualname := q, hasDict := true, slotNames := sn, subclasses := sub, abstract := ab, collection := col, hasDel := false } := by unfold clsIn; rw [hC] <;> rfl
  refine Att.call_fn (binds := [("self", .ref x), (fl, v)]) X hlim ho hcd hroom (BindsTo.of_eq (T.bnd _ _ _ _ _ _ _ _ _ _ _ _ _)) (by rw [List.all_cons, List.all_cons, List.all_nil, T.lookF]; rfl) (fun s₁ IC => ?_) rfl rfl rfl
  obtain ⟨h₁, tk₁, rfl⟩ := IC.toInCall.same
  have k : ∀ b o, s.heap.get? b = some o → h₁.get? b = some o := IC.toInCall.keep
  have hn := IC.toInCall.ns
  have hxL : s.heap.objs.size ≠ x := Nat.ne_of_gt (Heap.lt_size hx)
  have X₁ : K.In h₁ := X.keeps k
  have hx₁ := k _ _ hx
  -- self.by = by
  show wpAny _ _ (execs _ _) _ _ _
  refine wpAny_execs_cons (plainObj_wpAny_Assign_Attribute ?_)
  have kF : (envOfC qn (iS fl) s.heap.objs.size fI cdv).kindOf fl = some NameKind.local := T.lookF
  have kS : (envOfC qn (iS fl) s.heap.objs.size fI cdv).kindOf "self" = some NameKind.local := by first | rfl | with_unfolding_all rfl
  have bF : bindL (envOfC qn (iS fl) s.heap.objs.size fI cdv).kindOf [(("self" : Str), Value.ref x), (fl, v)] (fun _ => none) fl = some v := by
    unfold bindL bindL bindL
    rw [if_pos kF]
    exact if_pos rfl
  have bS : bindL (envOfC qn (iS fl) s.heap.objs.size fI cdv).kindOf [(("self" : Str), Value.ref x), (fl, v)] (fun _ => none) "self" = some (.ref x) := by
    unfold bindL bindL bindL
    rw [if_pos kF]
    refine (if_neg (fun e => T.neSelf e.symm)).trans ?_
    rw [if_pos kS]
    exact if_pos rfl
  refine ldC (v := v) hn bF (ldC (v := .ref x) hn bS ?_ rfl kS (by decide +kernel)) rfl kF T.dbg
  refine set_plain X₁ (ox := excO C t0) (od := none) ⟨hx₁, rfl, rfl, trivial⟩ T.sa ?_
  refine exc_osa X₁ hx₁ hcl (show refsVE (.ref C :: bm) = true from hbm) rfl T.noN (fun h₃ tk₃ dx k₃ dn dne hx₃ hn₃ => ?_)
  show wpAny _ _ (execs _ _) _ _ _
  have z : s.heap.objs.size < h₁.objs.size := hn.lt
  exact wpAny_execs_nil (hq h₃ tk₃ dx ⟨fun b o hb e => k₃ b o hb (k b o e), hx₃, Nat.le_of_lt (Nat.lt_of_lt_of_le z dn), dne, hn₃⟩)
theorem err_made (T : ErrTxt cn qn fl K mg C fI) {v : Value} (X : K.In s.heap) (hlim : s.heap.NoLimit) (hroom : A.depth + 1 < recursionLimit)
    (hq : ∀ h' tk e d, OwnMade fl s.heap h' e C d v → R (.ok (.ret (.ref e))) { s with heap := h', toks := tk }) :
    codeAny (model prog w) A (.call (.ref C) ⟨[v], []⟩) R s := by
  obtain ⟨nm, q, N, bs, bm, sn, sub, ab, col, dd, k0, k1, k2, k3, k5, hC, hbm⟩ := T.cls
  obtain ⟨hp, g, dr, tk, os⟩ := s
  have k : ∀ b o, hp.get? b = some o → ((hp.push (kdv_tup [v])).push (excO C hp.objs.size)).get? b = some o := fun b o e => Heap.get?_push_of_some _ (Heap.get?_push_of_some _ e)
  have hget : ((hp.push (kdv_tup [v])).push (excO C hp.objs.size)).get? (hp.objs.size + 1) = some (excO C hp.objs.size) := by heap_get
  have hnx : K.lookup (hp.objs.size + 1) = none := by
    cases e : K.lookup (hp.objs.size + 1) with
    | none => rfl
    | some o =>
      have z : hp.get? (hp.objs.size + 1) = some o := X _ _ e
      exact absurd (Nat.lt_of_succ_lt (Heap.lt_size z)) (Nat.lt_irrefl _)
  refine call_own F.excBase_ValueError (fun X => refsVE_contains X bm hbm) (X _ _ hC) (looks_findIn X T.iC) (fun self => bind_fn X self T.tC) (one_size v) ?_
  refine err_init (s := ⟨(hp.push (kdv_tup [v])).push (excO C hp.objs.size), g, dr, tk, os⟩) T (X.keeps k) (hlim.keeps k) hget hnx ?_ fun h' tk' dx ⟨k', hx, dn, dne, hns⟩ => ?_
  · show A.depth + 1 < recursionLimit
    exact hroom
  · have old : ∀ b o, hp.get? b = some o → h'.get? b = some o := fun b o e => k' b o (Nat.ne_of_lt (Nat.lt_succ_of_lt (Heap.lt_size e))) (k b o e)
    have z : hp.objs.size + 1 + 1 ≤ dx := by
      first
        | (simpa only [Heap.size_push] using dn)
        | exact dn
        | (have q := dn; rw [Heap.size_push, Heap.size_push] at q; exact q)
    exact ⟨rfl, hq h' tk' (hp.objs.size + 1) dx ⟨old, Nat.le_succ _, ⟨_, _, hx, rfl, rfl, rfl, rfl⟩, Nat.le_trans (Nat.le_trans (Nat.le_succ _) (Nat.le_succ _)) z, dne, hns⟩⟩
end
end ErrX
end PySem
namespace L2
open PySem PySem.Spec PyProof.Rows
theorem relO_err {v : V} {v' : Value} (r : RelV v v') (fl f : Str) : RelO (List.lookup f [(fl, v)]) (if f = fl then some v' else none) := by
  by_cases hw : f = fl
  · subst hw
    rw [if_pos rfl]
    have q : List.lookup f [(f, v)] = some v := by simp [List.lookup]
    rw [q]
    exact r
  · rw [if_neg hw]
    have qw : (f == fl) = false := by simpa using hw
    have q2 : List.lookup f [(fl, v)] = none := by simp [List.lookup, qw]
    rw [q2]
    trivial
section
variable {X : Cx} {C fI : Addr} {cn qn fl : Str}
/-- Low(e) -/
def tMkErr (fl : Str) (C : Addr) (ta : TA) : St → Hp → XK → Prop := fun σ H Q => ta σ H fun vs H1 => ∃ v, vs = [v] ∧ ∀ d, H1 d = none → Q (.ref C) (some d) (upd H1 d (.xd [(fl, v)]))
theorem pmk_err {a : Expr} {ta : TA} {p pos : Pos} {k : Nat} (T : PySem.ErrX.ErrTxt cn qn fl X.K X.mg C fI) (hr : Room k X.A) (ha : PA X [a] ta) (hg : Gl X cn)
    (he : starEach (a :: []) X.env = (false, eval a X.env) :: starEach [] X.env := by rfl) (hpl : (backTo pos (starEach [] X.env)).any (·.1) = false := by rfl) :
    PMk X (.Call (.Name cn p) [a] [] pos) (tMkErr fl C ta) := by
  intro pins s σ H Q I h
  refine wpAny_Call_Name_kw (ld_glob I hg T.gC ?_ T.dbc)
  refine PySem.W.callWith_K (h₀ := X.base) I.ok.mod.kin T.kC (thn (ha.run pos pins s σ H _ I h) fun us s1 hh => ?_) he hpl
  obtain ⟨vs, H1, I1, r1, v, ev, q1⟩ := hh
  subst ev
  refine ⟨I1.kIn, ?_⟩
  cases r1 with
  | cons rv rn =>
    rename_i v' us'
    cases rn
    show wpAny _ _ (call (.ref C) [v']) _ _ _
    have hlim := I1.nolimit
    obtain ⟨hp, g, dr, tk, os⟩ := s1
    refine wpAny_call (PySem.ErrX.err_made T I1.kIn hlim (by have := hr.dp; omega) fun h' tk' e d M => ?_)
    show MkP X pins σ Q (.ref e) ⟨h', g, dr, tk', os⟩
    obtain ⟨oe, fv, hoe, hc, hd, hdat, h1⟩ := M.obj
    have hns := M.ns
    obtain ⟨G', g1, g2⟩ := restrict h' fun b => decide (b ≠ e)
    have gk : ∀ b, b ≠ e → G'.get? b = h'.get? b := fun b hb => g1 b (decide_eq_true hb)
    have ge : G'.get? e = none := g2 e (by simp)
    have old : ∀ b o, hp.get? b = some o → G'.get? b = some o := fun b o q => (gk b (Nat.ne_of_lt (Nat.lt_of_lt_of_le (Heap.lt_size q) M.new))).trans (M.keep b o q)
    have ob : ObjOk X.prog X.w (upd H1 d (.xd [(fl, v)])) G' d (.xd [(fl, v)]) :=
      ⟨_, hns.at (fun o q => (gk d M.dne).trans q), fun f => relO_err rv fl f⟩
    have J : Inv X pins σ (upd H1 d (.xd [(fl, v)])) ⟨G', g, dr, tk', os⟩ := I1.laid (t' := tk') old M.dbig ob
    refine ⟨e, oe, fv, ⟨G', g, dr, tk', os⟩, _, .ref C, some d, rfl, J, fun b o q => ?_, ge, hoe, ⟨hc, hd⟩, hdat, h1, ?_, rfl, I1.bare, raises_own T.exC T.tyC, q1 d (I1.hok.fresh M.dbig)⟩
    · by_cases hb : b = e
      · have q' : G'.get? b = some o := q
        rw [hb, ge] at q'; cases q'
      · exact (gk b hb).symm.trans q
    · rw [upd_ne (Ne.symm M.dne)]
      exact I1.hok.fresh M.new
/-- raise Low(e) -/
def tRaiseErr (fl : Str) (C : Addr) (W : WX) (ta : TA) : TS := fun _ σ H => tMkErr fl C ta σ H fun cls d H' => W cls d σ H'
theorem ps_raiseErr {a : Expr} {ta : TA} {W : WX} {p pos pos2 : Pos} {k : Nat} (hc : X.calm = true) (T : PySem.ErrX.ErrTxt cn qn fl X.K X.mg C fI) (hr : Room k X.A) (tk : Takes X W) (ha : PA X [a] ta) (hg : Gl X cn)
    (he : starEach (a :: []) X.env = (false, eval a X.env) :: starEach [] X.env := by rfl) (hpl : (backTo pos (starEach [] X.env)).any (·.1) = false := by rfl) :
    PS X (.Raise (some (.Call (.Name cn p) [a] [] pos)) none pos2) (tRaiseErr fl C W ta) := ps_raise hc tk (pmk_err T hr ha hg he hpl)
/-- low.by, low the exception that the suite holds (at a; its class cls, its dict d) -/
def tByErr (fl : Str) (C : Addr) (a : Addr) (cls : Value) (d : Option Addr) (te : TE) : TE := fun σ H Q => te σ H fun x H1 => x = .ref a ∧ cls = .ref C ∧ ∃ (dd : Addr) (v : V), d = some dd ∧ H1 dd = some (.xd [(fl, v)]) ∧ Q v H1
theorem pe_byErr {a : Addr} {oe : Obj} {cls : Value} {d : Option Addr} {pn : List (Addr × Obj)} {e : Expr} {te : TE} {pos : Pos} (T : PySem.ErrX.ErrTxt cn qn fl X.K X.mg C fI) (hz : Zc cls d oe) (hf : ∃ vs, oe.data = .fields vs) (he : PE (X.suite a ((a, oe) :: pn)) e te)
    (hb : attributeBase e fl X.env (eval e X.env) = eval e X.env := by rfl) :
    PE (X.suite a ((a, oe) :: pn)) (.Attribute e fl pos) (tByErr fl C a cls d te) := by
  refine ⟨fun pins s σ H Q I h => ?_⟩
  refine attr_of hb (thn (he.run pins s σ H _ I h) fun u s1 hh => ?_)
  obtain ⟨x, H1, I1, rx, ex, ec, dd, v, ed, ea, q⟩ := hh
  subst ex
  obtain rfl : u = Value.ref a := rx
  subst ec
  subst ed
  obtain ⟨ha, _⟩ := I1.pin (a, oe) (List.mem_append_left _ List.mem_cons_self)
  obtain ⟨vs, hd⟩ := hf
  have hx : ObjOk X.prog X.w H1 s1.heap dd (.xd [(fl, v)]) := I1.hok dd _ ea
  obtain ⟨mA, hns, hr⟩ := hx
  obtain ⟨od, ho, hl⟩ := lookIn_ns hns
  have l : List.lookup fl [(fl, v)] = some v := by simp [List.lookup]
  obtain ⟨u, hu, ru⟩ := RelO.some_of (v := v) (o := mA fl) (by rw [← l]; exact hr fl)
  have J : PySem.W.InstAt s1.heap a oe C (some od) := ⟨ha, hz.1, by unfold PySem.W.notCls; rw [hd] <;> rfl, by rw [hz.2]; exact ho⟩
  exact HandSPX.exc_get I1.kIn J T.ga T.gg T.exC (PySem.W.findObj_own T.hdC T.noN rfl (by rw [hl, hu])) (handed_of ru) ⟨v, H1, I1.tok _, ru, q⟩
end
end L2


set_option maxRecDepth 100000
/-! PyI, part R: repr. -/
namespace PyI
open PySem PySem.Spec PyProof.Rows L2

/-- data, shown and read off the heap -/
structure ShowsK (prog : Program) (w : World) (h : Heap) (u : Value) (d : PyData) : Prop where
  reads : ∃ as, Reads h u d as
  shows : ∃ bs, ReadAtMost h d.depth bs ∧ ReprK prog w bs h d.depth u d.shown
structure ShowsAllK (prog : Program) (w : World) (h : Heap) (us : List Value) (ds : List PyData) : Prop where
  reads : ∃ as, ReadsAll h us ds as
  shows : ∃ bs, ReadAtMost h (PyData.depthAll ds) bs ∧ ReprAllK prog w bs h (PyData.depthAll ds) us (PyData.shownAll ds)
theorem ShowsAllK.nil {prog : Program} {w : World} {h : Heap} : ShowsAllK prog w h [] [] where
  reads := ⟨[], .nil⟩
  shows := ⟨[], fun _ z => (nomatch z), by simp only [PyData.shownAll]; exact .nil⟩
theorem ShowsAllK.cons {prog : Program} {w : World} {h : Heap} {u : Value} {us : List Value} {d : PyData} {ds : List PyData} (a : ShowsK prog w h u d) (b : ShowsAllK prog w h us ds) : ShowsAllK prog w h (u :: us) (d :: ds) := by
  obtain ⟨⟨as, ra⟩, ⟨s1, m1, k1⟩⟩ := a
  obtain ⟨⟨bs, rb⟩, ⟨s2, m2, k2⟩⟩ := b
  refine ⟨⟨_, .cons ra rb⟩, s1 ++ s2, ?_, ?_⟩
  · simp only [PyData.depthAll]
    exact (m1.mono (Nat.le_max_left _ _)).append (m2.mono (Nat.le_max_right _ _))
  · simp only [PyData.depthAll, PyData.shownAll]
    refine .cons ((k1.more fun b hb => List.mem_append_left _ hb).level_le (Nat.le_max_left _ _)) ?_
    exact k2.more_le (fun b hb => List.mem_append_right _ hb) (Nat.le_max_right _ _)
/-- the two halves of a dict's entries -/
theorem pairs_vals {prog : Program} {w : World} : ∀ {es : List DictEntry} {kvs : List (L2.Key × Value)}, Pairs (mixKind prog w) es kvs → es.map (·.val) = kvs.map (·.2)
  | _, _, .nil => rfl
  | _, _, .cons _ r t => by
    rw [List.map_cons, List.map_cons, pairs_vals t, r]
theorem key_shows {prog : Program} {w : World} {h : Heap} {k : L2.Key} {v : Value} (x : keyIs k v = true) (hs : (keyPy k).showable = true) (hz : (keyPy k).shown.length ≤ sizeLine) : ShowsK prog w h v (keyPy k) := by
  have rd : ∃ as, Reads h v (keyPy k) as ∧ (keyPy k).hasDict = false := by
    rcases keyIs_shape x with ⟨i, t, rfl, q⟩ | ⟨z, t, rfl, q⟩
    · exact ⟨[], by rw [q]; exact .int i t, by simp only [keyPy, PyData.hasDict]⟩
    · exact ⟨[], by rw [q]; exact .str z t, by simp only [keyPy, PyData.hasDict]⟩
  obtain ⟨as, r, nd⟩ := rd
  exact ⟨⟨as, r⟩, ReprK.of_reads r hs (PyData.noDict_hsm nd) hz⟩
theorem keys_show {prog : Program} {w : World} {h : Heap} : ∀ {es : List DictEntry} {kvs : List (L2.Key × Value)}, Pairs (mixKind prog w) es kvs → PyData.showableAll (kvs.map fun p => keyPy p.1) = true →
    (∀ t ∈ PyData.shownAll (kvs.map fun p => keyPy p.1), t.length ≤ sizeLine) → ShowsAllK prog w h (es.map (·.key)) (kvs.map fun p => keyPy p.1)
  | _, _, .nil, _, _ => .nil
  | _, _, .cons (kvs := kvs) r _ t, hs, hz => by
    simp only [List.map_cons, PyData.showableAll, Bool.and_eq_true] at hs
    simp only [List.map_cons, PyData.shownAll] at hz
    rw [List.map_cons, List.map_cons]
    exact .cons (key_shows r hs.1 (hz _ List.mem_cons_self)) (keys_show t hs.2 fun t ht => hz t (List.mem_cons_of_mem _ ht))

theorem kv_keys : ∀ ks : List (L2.Key × D), (toPyKv ks).map (·.1) = ks.map fun p => keyPy p.1
  | [] => rfl
  | (k, x) :: r => by simp only [toPyKv, List.map_cons, kv_keys r]
theorem kv_vals : ∀ ks : List (L2.Key × D), (toPyKv ks).map (·.2) = toPys (ks.map (·.2))
  | [] => rfl
  | (k, x) :: r => by simp only [toPyKv, List.map_cons, toPys, kv_vals r]
section
variable {X : Cx} {pins : List (Addr × Obj)} {σ : L2.St} {H : Hp} {s : Shared} {B : Hp} {hv : Nat → V}
theorem kv_same : ∀ {kvs : List (L2.Key × V)} {ks : List (L2.Key × D)} {vs : List (L2.Key × Value)}, RepKv X.K hv B kvs ks → KV kvs vs → (vs.map fun p => keyPy p.1) = ks.map fun p => keyPy p.1
  | _, _, _, .nil, .nil => rfl
  | _, _, _, .cons _ t, .cons r u => by
    rw [List.map_cons, List.map_cons, kv_same t u, ← r.1]
theorem lst_shows (I : Inv X pins σ H s) {a : Addr} {vs : List V} {ds : List D} (hs : SqL X.K H a vs) (q : ∀ its : List Value, Vals vs its → ShowsAllK X.prog X.w s.heap its (toPys ds)) : ShowsK X.prog X.w s.heap (.ref a) (toPy (.lst ds)) := by
  obtain ⟨its, rv, ⟨o, n, ho, hc, _, hd⟩, _⟩ := I.list hs
  obtain ⟨⟨as, hr⟩, ⟨bs, hb, hk⟩⟩ := q its rv
  have rd := Reads.list (xs := toPys ds) ho hc hd hr
  have hna := not_mem_of_deeper rd (by simp only [PyData.depth]; omega) hb
  refine ⟨⟨_, by simpa only [toPy] using rd⟩, ?_⟩
  simp only [toPy]
  refine ⟨_, ReadAtMost.cons rd (by simp only [PyData.depth]; omega) hb, ?_⟩
  simp only [PyData.depth, PyData.shown]
  generalize toPys ds = L at *
  cases its with
  | nil =>
    have hr' : ReadsAll s.heap [] L as := hr
    cases hr'
    simp only [PyData.shownAll, listText_nil]
    exact ReprK.listEmpty ho hc hd
  | cons x l => exact ReprK.list ho hc hd hna (by simpa using hk.length_eq) (fun i y e => hk.item i y (by simpa using e))
theorem kv_valsV : ∀ {kvs : List (L2.Key × V)} {vs : List (L2.Key × Value)}, KV kvs vs → Vals (kvs.map (·.2)) (vs.map (·.2))
  | _, _, .nil => .nil
  | _, _, .cons r t => .cons r.2 (kv_valsV t)
theorem dic_shows (I : Inv X pins σ H s) {a : Addr} {kvs : List (L2.Key × V)} {ks : List (L2.Key × D)} (ha : H a = some (.dK kvs)) (ra : RepKv X.K hv B kvs ks) (hs : PyData.showableKv (toPyKv ks) = true) (hz : (dictText (PyData.shownKv (toPyKv ks))).length ≤ sizeLine)
    (q : ∀ us : List Value, Vals (kvs.map (·.2)) us → ShowsAllK X.prog X.w s.heap us (toPys (ks.map (·.2)))) : ShowsK X.prog X.w s.heap (.ref a) (toPy (.dic ks)) := by
  obtain ⟨_, hsys, vs, rel, o, es, ep, ho, hx, hd, _, hp, _⟩ := dk_of I.hok ha
  have h1 := (PyData.showableKv_split _ hs).1
  rw [kv_keys, ← kv_same ra rel] at h1
  have kz : ∀ t ∈ PyData.shownAll (vs.map fun p => keyPy p.1), t.length ≤ sizeLine := by
    intro t ht
    rw [kv_same ra rel, ← kv_keys] at ht
    obtain ⟨p, hp, hl⟩ := PyData.shownKv_key_le _ t ht
    exact Nat.le_trans hl (Nat.le_trans (dictText_mem_le hp) hz)
  have kk := keys_show (h := s.heap) hp h1 kz
  rw [kv_same ra rel, ← kv_keys] at kk
  have kv := q (vs.map (·.2)) (kv_valsV rel)
  rw [← pairs_vals hp, ← kv_vals] at kv
  obtain ⟨⟨as1, r1⟩, ⟨b1, m1, k1⟩⟩ := kk
  obtain ⟨⟨as2, r2⟩, ⟨b2, m2, k2⟩⟩ := kv
  have rd := Reads.dict (kvs := toPyKv ks) ho hx.1 hd r1 r2
  have hb := (m1.mono (PyData.depthAll_keys_le (toPyKv ks))).append (m2.mono (PyData.depthAll_vals_le (toPyKv ks)))
  have hna := not_mem_of_deeper rd (by simp only [PyData.depth]; omega) hb
  refine ⟨⟨_, by simpa only [toPy] using rd⟩, ?_⟩
  simp only [toPy]
  refine ⟨_, ReadAtMost.cons rd (by simp only [PyData.depth]; omega) hb, ?_⟩
  simp only [PyData.depth, PyData.shown, PyData.shownKv_eq]
  exact ReprK.dict ho hx.1 hd hsys hna (ReprEntriesK.of_two es.toList _ _ (k1.more_le (fun b hb => List.mem_append_left _ hb) (PyData.depthAll_keys_le _)) (k2.more_le (fun b hb => List.mem_append_right _ hb) (PyData.depthAll_vals_le _)))
theorem dic_keys {kvs : List (L2.Key × V)} {ks : List (L2.Key × D)} {vs : List (L2.Key × Value)} {es : List DictEntry} {h : Heap} (rel : KV kvs vs) (ra : RepKv X.K hv B kvs ks) (hp : Pairs (mixKind X.prog X.w) es vs) (hs : PyData.showableKv (toPyKv ks) = true)
    (hz : (dictText (PyData.shownKv (toPyKv ks))).length ≤ sizeLine) : ShowsAllK X.prog X.w h (es.map (·.key)) ((toPyKv ks).map (·.1)) := by
  have h1 := (PyData.showableKv_split _ hs).1
  rw [kv_keys, ← kv_same ra rel] at h1 ⊢
  refine keys_show hp h1 fun t ht => ?_
  rw [kv_same ra rel, ← kv_keys] at ht
  obtain ⟨p, hp, hl⟩ := PyData.shownKv_key_le _ t ht
  exact Nat.le_trans hl (Nat.le_trans (dictText_mem_le hp) hz)
mutual
theorem Rep.shows (I : Inv X pins σ H s) (sm : Same B H) : ∀ (d : D) (v : V) (u : Value), Rep X.K hv B v d → RelV v u → plain d = true → (toPy d).showable = true → (toPy d).shown.length ≤ sizeLine → ShowsK X.prog X.w s.heap u (toPy d)
  | .non, _, _, h, r, _, hs, hz => by
    cases h; cases r
    exact ⟨⟨[], .none⟩, ReprK.of_reads .none hs (PyData.noDict_hsm rfl) hz⟩
  | .bl b, _, _, h, r, _, hs, hz => by
    cases h; cases r
    exact ⟨⟨[], .bool b⟩, ReprK.of_reads (.bool b) hs (PyData.noDict_hsm rfl) hz⟩
  | .int i, _, _, h, r, _, hs, hz => by
    cases h; obtain ⟨t, rfl⟩ := r
    exact ⟨⟨[], .int i t⟩, ReprK.of_reads (.int i t) hs (PyData.noDict_hsm rfl) hz⟩
  | .str x, _, _, h, r, _, hs, hz => by
    cases h; obtain ⟨t, rfl⟩ := r
    exact ⟨⟨[], .str x t⟩, ReprK.of_reads (.str x t) hs (PyData.noDict_hsm rfl) hz⟩
  | .han n, _, _, _, _, p, _, _ => by cases p
  | .scr n, _, _, _, _, p, _, _ => by cases p
  | .obj _ _ _, _, _, _, _, p, _, _ => by cases p
  | .tup ds, _, _, h, r, p, hs, hz => by
    cases h with
    | tup ha ra =>
      cases r
      obtain ⟨its, rv, ⟨o, ho, hc, n, hd⟩, _⟩ := I.tuple (ha.mono sm).t
      have hz' : (tupleText (PyData.shownAll (toPys ds))).length ≤ sizeLine := by simpa only [toPy, PyData.shown] using hz
      have q := Reps.shows I sm ds _ its ra rv (by simpa only [plain] using p) (by simpa only [toPy, PyData.showable] using hs) fun t ht => Nat.le_trans (tupleText_mem_le ht) hz'
      obtain ⟨⟨as, hr⟩, ⟨bs, hb, hk⟩⟩ := q
      have rd := Reads.tuple (xs := toPys ds) ho hc hd hr
      have hna := not_mem_of_deeper rd (by simp only [PyData.depth]; omega) hb
      refine ⟨⟨_, by simpa only [toPy] using rd⟩, ?_⟩
      simp only [toPy]
      exact ⟨_, ReadAtMost.cons rd (by simp only [PyData.depth]; omega) hb, by simp only [PyData.depth, PyData.shown]; exact ReprK.tuple ho hc hd hna hk⟩
  | .lst ds, _, _, h, r, p, hs, hz => by
    cases h with
    | lst ha ra =>
      cases r
      exact lst_shows I (SqL.of (sm _ _ ha)) fun its rv => Reps.shows I sm ds _ its ra rv (by simpa only [plain] using p) (by simpa only [toPy, PyData.showable] using hs) fun t ht => Nat.le_trans (listText_mem_le ht) (by simpa only [toPy, PyData.shown] using hz)
  | .dic ks, _, _, h, r, p, hs, hz => by
    cases h with
    | dic ha ra =>
      cases r
      refine dic_shows I (sm _ _ ha) ra (by simpa only [toPy, PyData.showable] using hs) (by simpa only [toPy, PyData.shown] using hz) fun us ru => ?_
      have hs' := (PyData.showableKv_split _ (by simpa only [toPy, PyData.showable] using hs)).2
      rw [kv_vals] at hs'
      refine RepKv.shows I sm ks _ us ra ru (by simpa only [plain] using p) hs' fun t ht => ?_
      rw [← kv_vals] at ht
      obtain ⟨q, hq, hl⟩ := PyData.shownKv_val_le _ t ht
      exact Nat.le_trans hl (Nat.le_trans (dictText_mem_le hq) (by simpa only [toPy, PyData.shown] using hz))
theorem Reps.shows (I : Inv X pins σ H s) (sm : Same B H) : ∀ (ds : List D) (vs : List V) (us : List Value), Reps X.K hv B vs ds → Vals vs us → plains ds = true → PyData.showableAll (toPys ds) = true →
    (∀ t ∈ PyData.shownAll (toPys ds), t.length ≤ sizeLine) → ShowsAllK X.prog X.w s.heap us (toPys ds)
  | [], _, _, h, r, _, _, _ => by
    cases h; cases r
    exact .nil
  | d :: ds, _, _, h, r, p, hs, hz => by
    cases h with
    | cons a t =>
      cases r with
      | cons b q =>
        simp only [plains, Bool.and_eq_true] at p
        simp only [toPys, PyData.showableAll, Bool.and_eq_true] at hs
        simp only [toPys, PyData.shownAll] at hz
        exact .cons (Rep.shows I sm d _ _ a b p.1 hs.1 (hz _ List.mem_cons_self)) (Reps.shows I sm ds _ _ t q p.2 hs.2 fun x hx => hz x (List.mem_cons_of_mem _ hx))
theorem RepKv.shows (I : Inv X pins σ H s) (sm : Same B H) : ∀ (ks : List (L2.Key × D)) (kvs : List (L2.Key × V)) (us : List Value), RepKv X.K hv B kvs ks → Vals (kvs.map (·.2)) us → plainKv ks = true → PyData.showableAll (toPys (ks.map (·.2))) = true →
    (∀ t ∈ PyData.shownAll (toPys (ks.map (·.2))), t.length ≤ sizeLine) → ShowsAllK X.prog X.w s.heap us (toPys (ks.map (·.2)))
  | [], _, _, h, r, _, _, _ => by
    cases h; cases r
    exact .nil
  | (k, d) :: ks, _, _, h, r, p, hs, hz => by
    cases h with
    | cons a t =>
      rw [List.map_cons] at r
      cases r with
      | cons b q =>
        simp only [plainKv, Bool.and_eq_true] at p
        simp only [List.map_cons, toPys, PyData.showableAll, Bool.and_eq_true] at hs
        simp only [List.map_cons, toPys, PyData.shownAll] at hz
        exact .cons (Rep.shows I sm d _ _ a b p.1 hs.1 (hz _ List.mem_cons_self)) (RepKv.shows I sm ks _ _ t q p.2 hs.2 fun x hx => hz x (List.mem_cons_of_mem _ hx))
end
theorem dic_vals (I : Inv X pins σ H s) (sm : Same B H) {kvs : List (L2.Key × V)} {ks : List (L2.Key × D)} {vs : List (L2.Key × Value)} {es : List DictEntry} (ra : RepKv X.K hv B kvs ks) (rel : KV kvs vs) (hp : Pairs (mixKind X.prog X.w) es vs) (p : plainKv ks = true)
    (hs : PyData.showableKv (toPyKv ks) = true) (hz : (dictText (PyData.shownKv (toPyKv ks))).length ≤ sizeLine) : ShowsAllK X.prog X.w s.heap (es.map (·.val)) ((toPyKv ks).map (·.2)) := by
  have hs' := (PyData.showableKv_split _ hs).2
  rw [kv_vals] at hs' ⊢
  rw [pairs_vals hp]
  refine RepKv.shows I sm ks _ _ ra (kv_valsV rel) p hs' fun t ht => ?_
  rw [← kv_vals] at ht
  obtain ⟨q, hq, hl⟩ := PyData.shownKv_val_le _ t ht
  exact Nat.le_trans hl (Nat.le_trans (dictText_mem_le hq) hz)

/-- repr(x) -/
theorem repr_run {C : Gho} (hK : C.K = X.K) (I : Inv X pins σ H s) (sm : Same B H) (hg : X.A.guards = some []) (hu : X.A.units + 64 < cLine) {d : D} {v : V} {u : Value} {Q : Value → Shared → Prop} (r : RepB C B H v d) (rv : RelV v u) (hok : reprOk d = true)
    (hQ : ∀ h' k tk, (∀ b o, s.heap.get? b = some o → h'.get? b = some o) → Q (.str (shownD d) k) { s with heap := h', toks := tk }) : wpAny (model X.prog X.w) X.A (call (.builtin "repr") [u]) Q X.xe s := by
  obtain ⟨⟨⟨p, hs⟩, hz⟩, hd⟩ : ((plain d = true ∧ (toPy d).showable = true) ∧ (toPy d).shown.length ≤ sizeLine) ∧ (toPy d).depth ≤ 60 := by simpa only [reprOk, Bool.and_eq_true, decide_eq_true_eq] using hok
  have hQ0 : ∀ k tk, Q (.str (shownD d) k) { s with toks := tk } := fun k tk => hQ s.heap k tk fun _ _ e => e
  unfold shownD at hQ hQ0
  cases d with
  | non =>
    obtain rfl := r.non
    cases rv
    exact PySem.P.repr_of_none (hQ0 _ _)
  | bl b =>
    obtain rfl := r.bl
    cases rv
    exact PySem.P.repr_of_bool (hQ0 _ _)
  | int i =>
    obtain rfl := r.int
    obtain ⟨t, rfl⟩ := rv
    exact PySem.P.repr_of_int (by simpa [toPy, PyData.showable] using hs) (hQ0 _ _)
  | str x =>
    obtain rfl := r.str
    obtain ⟨t, rfl⟩ := rv
    exact PySem.P.repr_of_str (hQ0 _ _) (by simpa only [toPy, PyData.shown] using hz)
  | obj c ns vs => cases p
  | han n => cases p
  | scr n => cases p
  | tup ds =>
    obtain ⟨a, vs, rfl, _, ha, ra⟩ := r.tup sm
    obtain rfl : u = Value.ref a := rv
    simp only [toPy, PyData.shown, PyData.depth] at hQ hz hd
    rw [hK] at ha ra
    obtain ⟨its, rv, ⟨o, ho, hc, n, hdd⟩, _⟩ := I.tuple ha
    have q := Reps.shows I sm ds _ its ra rv (by simpa only [plain] using p) (by simpa only [toPy, PyData.showable] using hs) fun t ht => Nat.le_trans (tupleText_mem_le ht) hz
    obtain ⟨⟨as, hr⟩, ⟨bs, hb, hk⟩⟩ := q
    have hna := not_mem_of_deeper (Reads.tuple (xs := toPys ds) ho hc hdd hr) (by simp only [PyData.depth]; omega) hb
    refine call_repr_slot (by omega) ⟨o, ho, hc⟩ F.slot_tuple_repr ?_
    exact call_tuple_reprK ho hc hdd hna hk hg (fun b _ => Clear.nil b) (by show X.A.units + 1 + (_ + 1) < cLine; omega) (fun _ _ e => e) (fun h' k tk hk => ⟨_, _, rfl, hQ h' k tk hk⟩) hz
  | lst ds =>
    obtain ⟨a, vs, rfl, ha, ra⟩ := r.lst sm
    obtain rfl : u = Value.ref a := rv
    simp only [toPy, PyData.shown, PyData.depth] at hQ hz hd
    rw [hK] at ra
    obtain ⟨its, rv, ⟨o, n, ho, hc, _, hdd⟩, _⟩ := I.list (SqL.of ha)
    have q := Reps.shows I sm ds _ its ra rv (by simpa only [plain] using p) (by simpa only [toPy, PyData.showable] using hs) fun t ht => Nat.le_trans (listText_mem_le ht) hz
    obtain ⟨⟨as, hr⟩, ⟨bs, hb, hk⟩⟩ := q
    have hna := not_mem_of_deeper (Reads.list (xs := toPys ds) ho hc hdd hr) (by simp only [PyData.depth]; omega) hb
    refine call_repr_slot (by omega) ⟨o, ho, hc⟩ F.slot_list_repr.toG ?_
    generalize toPys ds = L at *
    cases its with
    | nil =>
      have hr' : ReadsAll s.heap [] L as := hr
      cases hr'
      simp only [PyData.shownAll, listText_nil] at hQ
      exact call_list_repr_empty ⟨o, ho, hc⟩ ho hdd ⟨_, _, rfl, hQ s.heap _ _ fun _ _ e => e⟩
    | cons x l => exact call_list_reprK ho hc hdd hna (by simpa using hk.length_eq) (fun i y e => hk.item i y (by simpa using e)) hg (fun b _ => Clear.nil b) (by show X.A.units + 1 + (_ + 1) < cLine; omega) (fun _ _ e => e) (fun h' k tk hk => ⟨_, _, rfl, hQ h' k tk hk⟩) hz
  | dic ks =>
    obtain ⟨a, kvs, rfl, ha, ra⟩ := r.dic sm
    obtain rfl : u = Value.ref a := rv
    simp only [toPy, PyData.shown, PyData.depth] at hQ hz hd
    rw [hK] at ra
    have hs' : PyData.showableKv (toPyKv ks) = true := by simpa only [toPy, PyData.showable] using hs
    obtain ⟨_, hsys, vs, rel, o, es, ep, ho, hx, hdd, _, hp, _⟩ := dk_of I.hok ha
    have kk := dic_keys rel ra hp hs' hz (h := s.heap)
    have kv := dic_vals I sm ra rel hp (by simpa only [plain] using p) hs' hz
    obtain ⟨⟨as1, r1⟩, ⟨b1, m1, k1⟩⟩ := kk
    obtain ⟨⟨as2, r2⟩, ⟨b2, m2, k2⟩⟩ := kv
    have rd := Reads.dict (kvs := toPyKv ks) ho hx.1 hdd r1 r2
    have hb := (m1.mono (PyData.depthAll_keys_le (toPyKv ks))).append (m2.mono (PyData.depthAll_vals_le (toPyKv ks)))
    have hna := not_mem_of_deeper rd (by simp only [PyData.depth]; omega) hb
    refine call_repr_slot (by omega) ⟨o, ho, hx.1⟩ F.slot_dict_repr ?_
    rw [PyData.shownKv_eq] at hQ hz
    refine call_dict_reprK ho hx.1 hdd hsys hna (ReprEntriesK.of_two es.toList _ _ (k1.more_le (fun b hb => List.mem_append_left _ hb) (PyData.depthAll_keys_le _)) (k2.more_le (fun b hb => List.mem_append_right _ hb) (PyData.depthAll_vals_le _)))
      hg (fun b _ => Clear.nil b) (by show X.A.units + 1 + (_ + 1) < cLine; omega) (fun _ _ e => e) (fun h' k tk hk => ⟨_, _, rfl, hQ h' k tk hk⟩) hz
end
end PyI

set_option maxRecDepth 100000
/-! PyI, part RS: sorted(t), t a tuple of ints. -/
namespace PyI
open PySem PySem.Spec PyProof.Rows L2

theorem cr_sortedTup {X : Cx} : CallR X (.builtin "sorted") (fun vs H Q => ∃ (a : Addr) (ns : List Int), vs = [V.ref a] ∧ SqT X.K H a (ns.map V.int) ∧ ∀ (ns' : List Int) (p : Addr), ns'.Perm ns → ns'.Pairwise (· ≤ ·) → H p = none → Q (.ref p) (upd H p (.lst (ns'.map V.int)))) := by
  intro pins s σ H vs us Q I r h
  obtain ⟨a, ns, rfl, hs, q⟩ := h
  obtain ⟨its, rv, hp, hz⟩ := I.tuple hs
  rw [Vals.ref1 r]
  have hi := rv.ints
  have hz' : its.length ≤ sizeLine := by rw [← rv.length]; exact hz
  obtain ⟨o, ho, hc, n, hd⟩ := id hp
  refine Calls.call_function_entry kind_sorted plain_sorted entry_sorted (args_sorted1 _) ?_
  unfold Builtin.«sorted»
  refine wpAny_bind (m := checkCount "sorted" 1 1 _) (wpAny_pure ?_)
  refine wpAny_bind (wpAny_collect_seq a (.inr rfl) ho hc hd (fun h' hk => ?_) (by rw [List.size_toArray]; exact hz'))
  refine wpAny_bind (wpAny_newList ?_ hz')
  have hoL : (h'.push (seqObj "list" its.toArray 0)).get? h'.objs.size = some (seqObj "list" its.toArray 0) := Heap.get?_push_size _ rfl
  show wpAny _ _ _ _ _ { s with heap := h'.push (seqObj "list" its.toArray 0) }
  refine wpAny_bind (wpAny_holding (wpAny_call_entry slot_list_sort ⟨_, hoL, rfl⟩ entry_list_sort
    (SrtO.list_sort_ord SrtO.swo_int hoL hz' (fun h2 => SrtO.ints_sortable hi h2) fun out h1 h2 => ⟨_, rfl, ?_⟩) (args_list_sort _)))
  refine wpAny_pure ⟨_, rfl, ?_⟩
  obtain ⟨k1, k2, k3⟩ := SrtO.ints_out hi h1 h2
  obtain ⟨ep, he'⟩ := sortedHeap_at (vs := its) (out := out.toArray) hoL
  have hlen : ((out.map SrtO.iv).map V.int).length ≤ sizeLine := by
    rw [List.length_map, k2.length_eq, ← List.length_map (f := V.int)]
    exact hz
  have I1 : Inv X pins σ H { s with heap := h' } := I.kept (t' := s.toks) hk
  have fresh := I1.hok.fresh (Nat.le_refl _)
  refine ⟨.ref _, upd H h'.objs.size (.lst ((out.map SrtO.iv).map V.int)), I1.laid (t' := s.toks) (fun b u hu => ?_) (Nat.le_refl _) ⟨hlen, out, ep, vals_of_ints k1, he'⟩, rfl, q _ _ k2 k3 fresh⟩
  have e1 : (h'.push (seqObj "list" its.toArray 0)).get? b = some u := Heap.get?_push_of_some _ hu
  rw [sortedHeap_old (Nat.ne_of_lt (Heap.lt_size hu)) (Heap.lt_size e1)]
  exact e1
theorem strs_of_signs : ∀ (vs : List Value) (cs : List Nat), vs.length = cs.length → (∀ (j : Nat) (v : Value), vs[j]? = some v → ∃ c u, cs[j]? = some c ∧ v = .str ⟨#[c]⟩ u) → StrsAre vs (cs.map fun c => ⟨#[c]⟩)
  | [], [], _, _ => .nil
  | [], _ :: _, h, _ => by simp at h
  | _ :: _, [], h, _ => by simp at h
  | v :: vs, c :: cs, h, k => by
    obtain ⟨c', u, h1, rfl⟩ := k 0 v rfl
    have e1 : some c = some c' := h1
    cases e1
    exact .cons _ u (strs_of_signs vs cs (by simpa using h) fun j v hv => k (j + 1) v hv)
theorem risingS_pair : ∀ {cs : List Nat} {p : Nat}, risingS ⟨#[p]⟩ (cs.map fun c => (⟨#[c]⟩ : Str)) = true → (p :: cs).Pairwise (· ≤ ·)
  | [], p, _ => List.pairwise_singleton _ _
  | x :: cs, p, h => by
    rw [List.map_cons, risingS, Bool.and_eq_true, Bool.not_eq_true'] at h
    have ih := risingS_pair h.2
    have hx : p ≤ x := by
      have h1 := h.1
      by_cases e : x < p
      · have : ltCps [x] [p] = true := by simp [ltCps, e]
        rw [show (⟨#[x]⟩ : Str).cps.toList = [x] from rfl, show (⟨#[p]⟩ : Str).cps.toList = [p] from rfl, this] at h1
        cases h1
      · omega
    rw [List.pairwise_cons]
    refine ⟨fun y hy => ?_, ih⟩
    rcases List.mem_cons.mp hy with rfl | hy
    · exact hx
    · exact Nat.le_trans hx (List.rel_of_pairwise_cons ih hy)
theorem sortedS_pair {cs : List Nat} (h : sortedS (cs.map fun c => (⟨#[c]⟩ : Str)) = true) : cs.Pairwise (· ≤ ·) := by
  cases cs with
  | nil => exact .nil
  | cons c cs => exact risingS_pair h
theorem perm_signs {cs : List Nat} {ys : List Str} (h : ys.Perm (cs.map fun c => (⟨#[c]⟩ : Str))) : ∃ ds : List Nat, ys = ds.map (fun c => (⟨#[c]⟩ : Str)) ∧ ds.Perm cs := by
  have hm : ∀ y ∈ ys, ∃ c : Nat, y = ⟨#[c]⟩ := fun y hy => by
    obtain ⟨c, _, rfl⟩ := List.mem_map.mp (h.mem_iff.mp hy)
    exact ⟨c, rfl⟩
  refine ⟨ys.map fun y => y.cps.toList.headD 0, ?_, ?_⟩
  · rw [List.map_map]
    refine ((List.map_congr_left fun y hy => ?_).trans (List.map_id ys)).symm
    obtain ⟨c, rfl⟩ := hm y hy
    rfl
  · have := h.map fun y => y.cps.toList.headD 0
    rw [List.map_map] at this
    have e : cs.map ((fun (y : Str) => y.cps.toList.headD 0) ∘ fun c => (⟨#[c]⟩ : Str)) = cs := (List.map_congr_left fun c _ => rfl).trans (List.map_id cs)
    rwa [e] at this
theorem cr_sortedStr {X : Cx} (hc : X.calm = true) : CallR X (.builtin "sorted") (fun vs H Q => ∃ x : Str, vs = [V.str x] ∧ x.length ≤ sizeLine ∧ ∀ (ds : List Nat) (p : Addr), ds.Perm x.cps.toList → ds.Pairwise (· ≤ ·) → H p = none → Q (.ref p) (upd H p (.lst (ds.map fun c => V.str ⟨#[c]⟩)))) := by
  intro pins s σ H vs us Q I r h
  obtain ⟨x, rfl, hz, q⟩ := h
  cases r with
  | cons r1 r2 =>
  cases r2
  obtain ⟨t, rfl⟩ := r1
  refine Calls.call_function_entry kind_sorted plain_sorted entry_sorted (args_sorted1 _) ?_
  unfold Builtin.«sorted»
  refine wpAny_bind (m := checkCount "sorted" 1 1 _) (wpAny_pure ?_)
  refine wpAny_bind (wpAny_collect_str (A := X.A.in1) (I.ok.hd hc) x t (fun s' acc hk hg hd ho hi => ?_) hz)
  obtain ⟨hp, g, d, tk, os⟩ := s
  obtain ⟨h', g', d', tk', os'⟩ := s'
  dsimp only at hk hg hd ho
  subst hg hd ho
  have hcs : acc.toList.length = x.cps.toList.length := by rw [Array.length_toList, Array.length_toList]; exact hi.1
  have hS : StrsAre acc.toList (x.cps.toList.map fun c => (⟨#[c]⟩ : Str)) := strs_of_signs _ _ hcs fun j v hv => by
    obtain ⟨c, u, h1, h2⟩ := hi.2 j v (by rw [← Array.getElem?_toList]; exact hv)
    exact ⟨c, u, by rw [Array.getElem?_toList]; exact h1, h2⟩
  have hz' : acc.toList.length ≤ sizeLine := by rw [hcs, Array.length_toList]; exact hz
  refine wpAny_bind (wpAny_newList ?_ hz')
  have hoL : (h'.push (seqObj "list" acc.toList.toArray 0)).get? h'.objs.size = some (seqObj "list" acc.toList.toArray 0) := Heap.get?_push_size _ rfl
  show wpAny _ _ _ _ _ ⟨h'.push (seqObj "list" acc.toList.toArray 0), g', d', tk', os'⟩
  refine wpAny_bind (wpAny_holding (wpAny_call_entry slot_list_sort ⟨_, hoL, rfl⟩ entry_list_sort
    (PyProof.Rows.list_sort_treeKAny strKind_oneLt hoL hS.keysOf (fun v₁ v₂ rest e => keyKind_strs (by rw [← e]; exact hS)) hz' fun st' hp' hs => ⟨_, rfl, ?_⟩) (args_list_sort _)))
  refine wpAny_pure ⟨_, rfl, ?_⟩
  obtain ⟨ss', k1, k2, k3⟩ := sorted_out_str hS hp' hs
  obtain ⟨ds, rfl, k4⟩ := perm_signs k2
  obtain ⟨ep, he'⟩ := sortedHeap_at (vs := acc.toList) (out := (arrOf st').map (·.2)) hoL
  have ev : (ds.map fun c => V.str ⟨#[c]⟩) = (ds.map fun c => (⟨#[c]⟩ : Str)).map V.str := by rw [List.map_map]; rfl
  have hlen : ((ds.map fun c => (⟨#[c]⟩ : Str)).map V.str).length ≤ sizeLine := by
    rw [List.length_map, List.length_map, k4.length_eq, ← hcs]; exact hz'
  have I1 : Inv X pins σ H ⟨h', g', d', tk', os'⟩ := I.kept (t' := tk') hk
  have fresh := I1.hok.fresh (Nat.le_refl _)
  refine ⟨.ref _, upd H h'.objs.size (.lst ((ds.map fun c => (⟨#[c]⟩ : Str)).map V.str)), I1.laid (t' := tk') (fun b u hu => ?_) (Nat.le_refl _) ⟨hlen, _, ep, vals_of_strs k1, he'⟩, rfl, ev ▸ q ds _ k4 (sortedS_pair k3) fresh⟩
  have e1 : (h'.push (seqObj "list" acc.toList.toArray 0)).get? b = some u := Heap.get?_push_of_some _ hu
  rw [sortedHeap_old (Nat.ne_of_lt (Heap.lt_size hu)) (Heap.lt_size e1)]
  exact e1
end PyI

set_option maxRecDepth 100000
/-! PyI, part D: what is built in. -/
namespace PyI
open PySem PySem.Spec PyProof.Rows L2

/-! ### lists of ints -/
theorem insI_perm (y : Int) : ∀ l : List Int, (insI y l).Perm (y :: l)
  | [] => .refl _
  | z :: l => by
    unfold insI
    split
    · exact .refl _
    · exact (List.Perm.cons z (insI_perm y l)).trans (.swap y z l)
theorem sortI_perm : ∀ l : List Int, (sortI l).Perm l
  | [] => .nil
  | x :: r => (insI_perm x _).trans (.cons x (sortI_perm r))
theorem insI_rise (y : Int) : ∀ l : List Int, l.Pairwise (· ≤ ·) → (insI y l).Pairwise (· ≤ ·)
  | [], _ => List.pairwise_singleton _ _
  | z :: l, h => by
    have h1 := List.pairwise_cons.mp h
    unfold insI
    split
    · rename_i hy
      refine List.pairwise_cons.mpr ⟨fun a ha => ?_, h⟩
      rcases List.mem_cons.mp ha with rfl | ha
      · exact hy
      · exact Int.le_trans hy (h1.1 a ha)
    · rename_i hy
      refine List.pairwise_cons.mpr ⟨fun a ha => ?_, insI_rise y l h1.2⟩
      rcases List.mem_cons.mp ((insI_perm y l).mem_iff.mp ha) with rfl | hm
      · omega
      · exact h1.1 a hm
theorem sortI_rise : ∀ l : List Int, (sortI l).Pairwise (· ≤ ·)
  | [] => .nil
  | x :: r => insI_rise x _ (sortI_rise r)
theorem sortI_only {l m : List Int} (p : m.Perm l) (h : m.Pairwise (· ≤ ·)) : m = sortI l :=
  PySem.W.ksm_same (p.trans (sortI_perm l).symm) h (sortI_rise l)
theorem maxI_spec : ∀ (l : List Int) (m : Int), maxI m l ∈ m :: l ∧ ∀ y ∈ m :: l, y ≤ maxI m l
  | [], m => ⟨List.mem_singleton.mpr rfl, fun y hy => by rw [List.mem_singleton.mp hy]; exact Int.le_refl _⟩
  | x :: r, m => by
    unfold maxI
    obtain ⟨h1, h2⟩ := maxI_spec r (if x > m then x else m)
    refine ⟨?_, fun y hy => ?_⟩
    · rcases List.mem_cons.mp h1 with h1 | h1
      · rw [h1]
        split
        · exact List.mem_cons_of_mem _ List.mem_cons_self
        · exact List.mem_cons_self
      · exact List.mem_cons_of_mem _ (List.mem_cons_of_mem _ h1)
    · have h3 := h2 _ List.mem_cons_self
      rcases List.mem_cons.mp hy with rfl | hy
      · split at h3 <;> split <;> omega
      · rcases List.mem_cons.mp hy with rfl | hy
        · split at h3 <;> split <;> omega
        · exact h2 y (List.mem_cons_of_mem _ hy)
theorem minI_spec : ∀ (l : List Int) (m : Int), minI m l ∈ m :: l ∧ ∀ y ∈ m :: l, minI m l ≤ y
  | [], m => ⟨List.mem_singleton.mpr rfl, fun y hy => by rw [List.mem_singleton.mp hy]; exact Int.le_refl _⟩
  | x :: r, m => by
    unfold minI
    obtain ⟨h1, h2⟩ := minI_spec r (if x < m then x else m)
    refine ⟨?_, fun y hy => ?_⟩
    · rcases List.mem_cons.mp h1 with h1 | h1
      · rw [h1]
        split
        · exact List.mem_cons_of_mem _ List.mem_cons_self
        · exact List.mem_cons_self
      · exact List.mem_cons_of_mem _ (List.mem_cons_of_mem _ h1)
    · have h3 := h2 _ List.mem_cons_self
      rcases List.mem_cons.mp hy with rfl | hy
      · split at h3 <;> split <;> omega
      · rcases List.mem_cons.mp hy with rfl | hy
        · split at h3 <;> split <;> omega
        · exact h2 y (List.mem_cons_of_mem _ hy)
theorem maxI_only {l : List Int} {m x : Int} (h1 : x ∈ m :: l) (h2 : ∀ y ∈ m :: l, y ≤ x) : x = maxI m l :=
  Int.le_antisymm ((maxI_spec l m).2 x h1) (h2 _ (maxI_spec l m).1)
theorem minI_only {l : List Int} {m x : Int} (h1 : x ∈ m :: l) (h2 : ∀ y ∈ m :: l, x ≤ y) : x = minI m l :=
  Int.le_antisymm (h2 _ (minI_spec l m).1) ((minI_spec l m).2 x h1)

/-! ### subscripts -/
section
variable {X : Cx} {C : Gho}
theorem atI_rep {K : PySem.W.Frag} {hv : Nat → V} {B : Hp} {vs : List V} {ds : List D} {i : Int} {d : D} (r : Reps K hv B vs ds) (h : atI ds i = some d) : ∃ v, atI vs i = some v ∧ Rep K hv B v d := by
  unfold atI at h ⊢
  rw [← r.length] at h
  obtain ⟨j, h1, h2⟩ := Option.bind_eq_some_iff.mp h
  obtain ⟨v, h3, h4⟩ := r.get h2
  exact ⟨v, by rw [h1]; exact h3, h4⟩
theorem idx_ok (hK : C.K = X.K) (hu : X.A.units + 65 < cLine) : IxR X (rBin C idxF .clean) := by
  intro value slice pins s σ H x y v u Q I rx ry h hs
  obtain ⟨B, γ, d, e, z, sm, g, hx, hy, hz, q⟩ := h
  unfold idxF at hz
  split at hz
  · cases hy.int
    obtain ⟨a, vs, rfl, ha0, ha, ra⟩ := hx.tup sm
    obtain ⟨w, h1, h2⟩ := atI_rep ra hz
    exact ix_tup value slice pins s σ H _ _ v u Q I rx ry ⟨_, _, _, _, rfl, rfl, hK ▸ ha, h1, q.old sm g h2⟩ hs
  · cases hy.int
    obtain ⟨a, vs, rfl, ha, ra⟩ := hx.lst sm
    obtain ⟨w, h1, h2⟩ := atI_rep ra hz
    exact ix_list value slice pins s σ H _ _ v u Q I rx ry ⟨_, _, _, _, rfl, rfl, SqL.of ha, h1, q.old sm g h2⟩ hs
  · split at hz
    · rename_i hl
      cases hy.int; cases hx.str
      obtain ⟨c, h1, rfl⟩ := Option.map_eq_some_iff.mp hz
      exact ix_str value slice pins s σ H _ _ v u Q I rx ry ⟨_, _, _, rfl, rfl, hl, h1, q.old sm g (.str _)⟩ hs
    · cases hz
  · cases hy.int
    obtain ⟨a, vs, rfl, ha, ra⟩ := hx.dic sm
    exact dic value slice pins s σ H _ (.inl _) v u Q I rx ry ha ra hz (fun w r => q.old sm g r) hs
  · cases hy.str
    obtain ⟨a, vs, rfl, ha, ra⟩ := hx.dic sm
    exact dic value slice pins s σ H _ (.inr _) v u Q I rx ry ha ra hz (fun w r => q.old sm g r) hs
  · cases hz
where
  dic {B : Hp} (value slice : Expr) (pins : List (Addr × Obj)) (s : Shared) (σ : L2.St) (H : Hp) (a : Addr) (k : L2.Key) (v u : Value) (Q : VK) (I : Inv X pins σ H s) (rx : RelV (.ref a) v) (ry : RelV (kV k) u) {kvs : List (L2.Key × V)} {ks : List (L2.Key × D)} {z : D}
      (ha : H a = some (.dK kvs)) (ra : RepKv C.K C.hv B kvs ks) (hz : valD ks k = some z) (q : ∀ w, Rep C.K C.hv B w z → Q w H) (hs : subscripted slice false v u = operate [v, u] (getItem v u)) :
      wpAny (model X.prog X.w) X.A (subscriptTail value slice v u) (EP X pins σ Q) X.xe s := by
    obtain rfl : v = Value.ref a := rx
    rcases ra.val (k := k) with ⟨h1, h2⟩ | ⟨w, d, h1, h2, h3⟩
    · rw [h2] at hz; cases hz
    · rw [h2] at hz; cases hz
      have gd : DGet H a (kV k) (some w) := by rw [← h1]; exact DGet.k ha
      exact tail_any (dict_typeIs I gd) PySem.F.slot_dict_getitem.lookup (d_getItem (by omega) I gd ry fun w' s3 I3 rw' => ⟨w, H, I3, rw', q w h3⟩) hs

/-! ### slices -/
theorem cut_rep {K : PySem.W.Frag} {hv : Nat → V} {B : Hp} {vs : List V} {ds : List D} (lo hi : Option Int) (r : Reps K hv B vs ds) : Reps K hv B (cutV vs lo hi) (cutG ds lo hi) := by
  unfold cutV cutG
  rw [r.length]
  exact (r.drop _).take _
theorem sIx0 (n : Nat) (o : Option Int) (d : Nat) : HT.sIx n d o = HT.sIx n d o := rfl
theorem scr_cut {ns : List Int} {K : PySem.W.Frag} {hv : Nat → V} {B : Hp} (lo hi : Option Int) : Reps K hv B (cutV (ns.map V.int) lo hi) ((cutG ns lo hi).map D.int) := by
  have e : cutV (ns.map V.int) lo hi = (cutG ns lo hi).map V.int := by
    unfold cutV cutG
    rw [List.length_map, ← List.map_drop, ← List.map_take]
  rw [e]
  exact Reps.ofInts _
theorem slc_ok (hK : C.K = X.K) : SlR X (fun x lo hi H Q => ∃ (B : Hp) (γ d z : D), Same B H ∧ C.rep γ H ∧ RepB C B H x d ∧ slcF lo hi d = some z ∧ Done C B H γ .fresh z Q) := by
  intro pins s σ H x v vl vu lo hi sl Q I rx hs pl pu h
  obtain ⟨B, γ, d, z, sm, g, hx, hz, q⟩ := h
  unfold slcF at hz
  split at hz
  · rename_i xs0
    cases hz
    obtain ⟨a, vs, rfl, ha0, ha, ra⟩ := hx.tup sm
    refine slF_tup pins s σ H _ v vl vu lo hi sl Q I rx hs pl pu ⟨a, vs, rfl, hK ▸ ha, fun e => ?_, fun _ => q.newT sm g (cut_rep lo hi ra)⟩
    have e2 : cutG xs0 lo hi = xs0 := by
      unfold cutG
      rw [← ra.length, e.1, e.2, List.drop_zero, Nat.sub_zero, List.take_of_length_le (by rw [ra.length]; exact Nat.le_refl _)]
    rw [e2] at q
    exact q.oldT sm g (.tup ha0 ra)
  · cases hz
    obtain ⟨a, vs, rfl, ha, ra⟩ := hx.lst sm
    exact sl_list pins s σ H _ v vl vu lo hi sl Q I rx hs pl pu ⟨a, vs, rfl, SqL.of ha, q.newL sm g (cut_rep lo hi ra)⟩
  · split at hz
    · rename_i hl
      cases hz; cases hx.str
      exact sl_str pins s σ H _ v vl vu lo hi sl Q I rx hs pl pu ⟨_, rfl, hl, q.flat sm g rfl (.str _)⟩
    · cases hz
  · cases hz
    obtain ⟨a, rfl, _, ha⟩ := hx.scr sm
    exact sl_list pins s σ H _ v vl vu lo hi sl Q I rx hs pl pu ⟨a, _, rfl, hK ▸ ha, q.newL sm g (scr_cut lo hi)⟩
  · cases hz

/-! ### built-in functions -/
inductive RepBs (C : Gho) (B H : Hp) : List V → List D → Prop where
  | nil : RepBs C B H [] []
  | cons {v : V} {vs : List V} {d : D} {ds : List D} : RepB C B H v d → RepBs C B H vs ds → RepBs C B H (v :: vs) (d :: ds)
theorem RepBs.one {B H : Hp} {vs : List V} {d : D} (h : RepBs C B H vs [d]) : ∃ v, vs = [v] ∧ RepB C B H v d := by
  cases h with
  | cons a t => cases t; exact ⟨_, rfl, a⟩
theorem RepBs.two {B H : Hp} {vs : List V} {d e : D} (h : RepBs C B H vs [d, e]) : ∃ v w, vs = [v, w] ∧ RepB C B H v d ∧ RepB C B H w e := by
  cases h with
  | cons a t =>
    cases t with
    | cons b t => cases t; exact ⟨_, _, rfl, a, b⟩
def BI.val : BI → Value
  | .len => .builtin "len" | .abs => .builtin "abs" | .min => .builtin "min" | .max => .builtin "max" | .sum => .builtin "sum" | .all => .builtin "all" | .any => .builtin "any"
  | .sorted => .builtin "sorted" | .repr => .builtin "repr" | .int => .type "int" | .str => .type "str" | .tuple => .type "tuple" | .list => .type "list"
def rBi (C : Gho) (f : List D → Option D) : List V → Hp → VK → Prop := fun xs H Q => ∃ (B : Hp) (γ : D) (ds : List D) (z : D), Same B H ∧ C.rep γ H ∧ RepBs C B H xs ds ∧ f ds = some z ∧ Done C B H γ .fresh z Q
theorem signs_reps {K : PySem.W.Frag} {hv : Nat → V} {B : Hp} : ∀ ds : List Nat, Reps K hv B (ds.map fun c => V.str ⟨#[c]⟩) (ds.map ((fun i : Int => D.str ⟨#[i.toNat]⟩) ∘ fun (c : Nat) => (c : Int)))
  | [] => .nil
  | c :: ds => .cons (.str _) (signs_reps ds)
theorem bi_ok (hK : C.K = X.K) (hc : X.calm = true) (hg : X.A.guards = some []) (hu : X.A.units + 65 < cLine) (f : BI) : CallR X f.val (rBi C (biF f)) := by
  intro pins s σ H xs us Q I r h
  obtain ⟨B, γ, ds, z, sm, g, hx, hz, q⟩ := h
  unfold biF at hz
  split at hz
  · split at hz
    · rename_i hl
      obtain ⟨v, rfl, h1⟩ := hx.one
      cases hz; cases h1.str
      exact call_len_str pins s σ H _ us Q I r ⟨_, rfl, hl, q.flat sm g rfl (.int _)⟩
    · cases hz
  · obtain ⟨v, rfl, h1⟩ := hx.one
    cases hz
    obtain ⟨a, vs, rfl, ha0, ha, ra⟩ := h1.tup sm
    exact call_len_seq pins s σ H _ us Q I r ⟨_, _, rfl, .inr (hK ▸ ha), by rw [ra.length]; exact q.flat sm g rfl (.int _)⟩
  · obtain ⟨v, rfl, h1⟩ := hx.one
    cases hz
    obtain ⟨a, vs, rfl, ha, ra⟩ := h1.lst sm
    exact call_len_seq pins s σ H _ us Q I r ⟨_, _, rfl, .inl (SqL.of ha), by rw [ra.length]; exact q.flat sm g rfl (.int _)⟩
  · obtain ⟨v, rfl, h1⟩ := hx.one
    cases hz
    obtain ⟨a, vs, rfl, ha, ra⟩ := h1.dic sm
    exact call_lenD pins s σ H _ us Q I r ⟨_, _, rfl, ha, by rw [ra.length]; exact q.flat sm g rfl (.int _)⟩
  · obtain ⟨v, rfl, h1⟩ := hx.one
    cases hz
    obtain ⟨a, rfl, _, ha⟩ := h1.scr sm
    exact call_len_seq pins s σ H _ us Q I r ⟨_, _, rfl, .inl (hK ▸ ha), by rw [List.length_map]; exact q.flat sm g rfl (.int _)⟩
  · obtain ⟨v, rfl, h1⟩ := hx.one
    cases hz; cases h1.int
    exact call_abs pins s σ H _ us Q I r ⟨_, rfl, q.flat sm g rfl (.int _)⟩
  · obtain ⟨v, w, rfl, h1, h2⟩ := hx.two
    cases hz; cases h1.int; cases h2.int
    exact call_min2 hc pins s σ H _ us Q I r ⟨_, _, rfl, q.flat sm g rfl (.int _)⟩
  · obtain ⟨v, w, rfl, h1, h2⟩ := hx.two
    cases hz; cases h1.int; cases h2.int
    exact call_max2 hc pins s σ H _ us Q I r ⟨_, _, rfl, q.flat sm g rfl (.int _)⟩
  · split at hz
    · rename_i he
      obtain ⟨v, rfl, h1⟩ := hx.one
      cases hz
      obtain ⟨a, vs, rfl, ha, ra⟩ := h1.lst sm
      have e := ra.intsD he
      subst e
      refine cr_min hc pins s σ H _ us Q I r ⟨_, _, rfl, SqL.of ha, by simp, fun m h1 h2 => ?_⟩
      rw [minI_only h1 h2]
      exact q.flat sm g rfl (.int _)
    · cases hz
  · split at hz
    · rename_i he
      obtain ⟨v, rfl, h1⟩ := hx.one
      cases hz
      obtain ⟨a, vs, rfl, ha, ra⟩ := h1.lst sm
      have e := ra.intsD he
      subst e
      refine cr_max hc pins s σ H _ us Q I r ⟨_, _, rfl, SqL.of ha, by simp, fun m h1 h2 => ?_⟩
      rw [maxI_only h1 h2]
      exact q.flat sm g rfl (.int _)
    · cases hz
  · obtain ⟨ns, he, rfl⟩ := Option.map_eq_some_iff.mp hz
    obtain ⟨v, rfl, h1⟩ := hx.one
    obtain ⟨a, vs, rfl, ha, ra⟩ := h1.lst sm
    have e := ra.intsD he
    subst e
    exact cr_sum hc pins s σ H _ us Q I r ⟨_, _, rfl, SqL.of ha, q.flat sm g rfl (.int _)⟩
  · obtain ⟨ns, he, rfl⟩ := Option.map_eq_some_iff.mp hz
    obtain ⟨v, rfl, h1⟩ := hx.one
    obtain ⟨a, vs, rfl, ha, ra⟩ := h1.lst sm
    have e := ra.boolsD he
    subst e
    exact cr_all hc pins s σ H _ us Q I r ⟨_, _, rfl, SqL.of ha, q.flat sm g rfl (.bl _)⟩
  · obtain ⟨ns, he, rfl⟩ := Option.map_eq_some_iff.mp hz
    obtain ⟨v, rfl, h1⟩ := hx.one
    obtain ⟨a, vs, rfl, ha, ra⟩ := h1.lst sm
    have e := ra.boolsD he
    subst e
    exact cr_any hc pins s σ H _ us Q I r ⟨_, _, rfl, SqL.of ha, q.flat sm g rfl (.bl _)⟩
  · obtain ⟨ns, he, rfl⟩ := Option.map_eq_some_iff.mp hz
    obtain ⟨v, rfl, h1⟩ := hx.one
    obtain ⟨a, vs, rfl, ha, ra⟩ := h1.lst sm
    have e := ra.intsD he
    subst e
    refine cr_sortedI pins s σ H _ us Q I r ⟨_, _, rfl, SqL.of ha, fun ns' p hp hr hn => ?_⟩
    have e2 := sortI_only hp hr
    subst e2
    exact q.newL sm g (ints_reps _) p hn
  · obtain ⟨ns, he, rfl⟩ := Option.map_eq_some_iff.mp hz
    obtain ⟨v, rfl, h1⟩ := hx.one
    obtain ⟨a, vs, rfl, _, ha, ra⟩ := h1.tup sm
    have e := ra.intsD he
    subst e
    refine cr_sortedTup pins s σ H _ us Q I r ⟨_, _, rfl, hK ▸ ha, fun ns' p hp hr hn => ?_⟩
    have e2 := sortI_only hp hr
    subst e2
    exact q.newL sm g (ints_reps _) p hn
  · split at hz
    · rename_i hl
      obtain ⟨v, rfl, h1⟩ := hx.one
      cases hz; cases h1.str
      refine cr_sortedStr hc pins s σ H _ us Q I r ⟨_, rfl, hl, fun ds p hp hr hn => ?_⟩
      have e2 := sortI_only (hp.map fun (c : Nat) => (c : Int)) (List.pairwise_map.mpr (hr.imp fun {a b} h => by omega))
      rw [← e2, List.map_map] at q
      exact q.newL sm g (signs_reps ds) p hn
    · cases hz
  · split at hz
    · rename_i hr
      obtain ⟨v, rfl, h1⟩ := hx.one
      cases hz
      cases r with
      | cons r1 r2 =>
        cases r2
        exact repr_run hK I sm hg (by omega) h1 r1 hr fun h' k tk hk => ⟨.str _, H, I.kept hk, ⟨_, rfl⟩, q.flat sm g rfl (.str _)⟩
    · cases hz
  · obtain ⟨v, rfl, h1⟩ := hx.one
    cases hz; cases h1.int
    exact call_int1 pins s σ H _ us Q I r (.inl ⟨_, rfl, q.flat sm g rfl (.int _)⟩)
  · obtain ⟨v, rfl, h1⟩ := hx.one
    cases hz; cases h1.bl
    exact call_int1 pins s σ H _ us Q I r (.inr ⟨_, rfl, q.flat sm g rfl (.int _)⟩)
  · split at hz
    · rename_i hl
      obtain ⟨n, hn, rfl⟩ := Option.map_eq_some_iff.mp hz
      obtain ⟨v, rfl, h1⟩ := hx.one
      cases h1.str
      obtain ⟨u, rfl, t, rfl⟩ := vals1 r
      exact PySem.W.KIN.call_text hn hl ⟨.int n, H, I.tok _, ⟨_, rfl⟩, q.flat sm g rfl (.int _)⟩
    · cases hz
  · obtain ⟨v, rfl, h1⟩ := hx.one
    cases hz; cases h1.str
    exact SkE.call_str_str pins s σ H _ us Q I r ⟨_, rfl, q.flat sm g rfl (.str _)⟩
  · split at hz
    · rename_i hl
      obtain ⟨v, rfl, h1⟩ := hx.one
      cases hz; cases h1.int
      exact call_str_int pins s σ H _ us Q I r ⟨_, rfl, hl, q.flat sm g rfl (.str _)⟩
    · cases hz
  · obtain ⟨v, rfl, h1⟩ := hx.one
    cases hz
    obtain ⟨a, vs, rfl, ha, ra⟩ := h1.lst sm
    exact callF_tuple_of pins s σ H _ us Q I r ⟨_, _, rfl, .inl ⟨SqL.of ha, q.newT sm g ra⟩⟩
  · obtain ⟨v, rfl, h1⟩ := hx.one
    cases hz
    obtain ⟨a, vs, rfl, ha0, ha, ra⟩ := h1.tup sm
    exact callF_tuple_of pins s σ H _ us Q I r ⟨_, _, rfl, .inr ⟨hK ▸ ha, q.oldT sm g (.tup ha0 ra)⟩⟩
  · obtain ⟨v, rfl, h1⟩ := hx.one
    cases hz
    obtain ⟨a, vs, rfl, ha, ra⟩ := h1.lst sm
    exact call_list_of pins s σ H _ us Q I r ⟨_, _, rfl, .inl (SqL.of ha), q.newL sm g ra⟩
  · obtain ⟨v, rfl, h1⟩ := hx.one
    cases hz
    obtain ⟨a, vs, rfl, ha0, ha, ra⟩ := h1.tup sm
    exact call_list_of pins s σ H _ us Q I r ⟨_, _, rfl, .inr (hK ▸ ha), q.newL sm g ra⟩
  · cases hz
where
  ints_reps {K : PySem.W.Frag} {hv : Nat → V} {B : Hp} : ∀ ns : List Int, Reps K hv B (ns.map V.int) (ns.map D.int)
    | [] => .nil
    | n :: r => .cons (.int n) (ints_reps r)

/-! ### isinstance -/
def Ty.name : Ty → String
  | .int => "int" | .bool => "bool" | .str => "str" | .tuple => "tuple" | .list => "list" | .dict => "dict"
def tyName : D → String
  | .non => "NoneType" | .bl _ => "bool" | .int _ => "int" | .str _ => "str" | .tup _ => "tuple" | .lst _ => "list" | .dic _ => "dict" | .han _ => "" | .scr _ => "" | .obj _ _ _ => ""
theorem tyX_of {B H : Hp} {K : PySem.W.Frag} {hv : Nat → V} {v : V} {d : D} (s : Same B H) (r : Rep K hv B v d) (h : ∀ n, d ≠ .han n) (h' : ∀ n, d ≠ .scr n) (h2 : ∀ c ns vs, d ≠ .obj c ns vs) : ∃ T, TyX K H v (.type T) ∧ T = tyName d := by
  cases r with
  | non => exact ⟨_, .base .non, rfl⟩
  | bl b => exact ⟨_, .base (.bl b), rfl⟩
  | int b => exact ⟨_, .base (.int b), rfl⟩
  | str b => exact ⟨_, .base (.str b), rfl⟩
  | tup a r =>
    rcases (a.mono s).t with (a | ⟨o, a⟩) | ⟨o, its, n, a, b, _⟩
    · exact ⟨_, .base (.tup a), rfl⟩
    · exact ⟨_, .fTuple a, rfl⟩
    · exact ⟨_, .kTuple a b, rfl⟩
  | lst a r => exact ⟨_, .base (.lst (s _ _ a)), rfl⟩
  | dic a r => exact ⟨_, .base (.dK (s _ _ a)), rfl⟩
  | han n => exact absurd rfl (h n)
  | scr _ => exact absurd rfl (h' _)
  | exo _ _ _ _ => exact absurd rfl (h2 _ _ _)
theorem RepB.tyX {B H : Hp} {v : V} {d : D} (s : Same B H) (r : RepB C B H v d) {t : Ty} {b : Bool} (h : tyF t d = some b) : ∃ T, TyX C.K H v (.type T) ∧ PySem.W.kitOne C.K (.type T) (.type t.name) = some b := by
  have nh : ∀ n, d ≠ .han n := by
    intro n e
    subst e
    cases t <;> cases h
  have nh' : ∀ n, d ≠ .scr n := by
    intro n e
    subst e
    cases t <;> cases h
  have nh2 : ∀ c ns vs, d ≠ .obj c ns vs := by
    intro c ns vs e
    subst e
    cases t <;> cases h
  have main : ∀ w, Rep C.K C.hv B w d ∨ (∃ T, TyX C.K H w (.type T) ∧ ((T = "list" ∧ ∃ xs, d = .lst xs) ∨ (T = "dict" ∧ ∃ xs, d = .dic xs))) → ∃ T, TyX C.K H w (.type T) ∧ PySem.W.kitOne C.K (.type T) (.type t.name) = some b := by
    intro w hw
    rcases hw with r | ⟨T, h1, h2⟩
    · obtain ⟨T, h1, h2⟩ := tyX_of s r nh nh' nh2
      refine ⟨T, h1, ?_⟩
      subst h2
      cases t <;> cases d <;> cases h <;> (show PySem.W.kitOne C.K (.type _) (.type _) = _; dsimp only [tyName, Ty.name]; exact kit_ty (by decide +kernel))
    · refine ⟨T, h1, ?_⟩
      rcases h2 with ⟨rfl, xs, rfl⟩ | ⟨rfl, xs, rfl⟩ <;> cases t <;> cases h <;> exact kit_ty (by decide +kernel)
  refine main v ?_
  rcases r with r | ⟨l, vs, xs, rfl, rfl, h3, _⟩ | ⟨l, vs, xs, rfl, rfl, h3, _⟩
  · exact .inl r
  · exact .inr ⟨_, .base (.lst h3), .inl ⟨rfl, _, rfl⟩⟩
  · exact .inr ⟨_, .base (.dK h3), .inr ⟨rfl, _, rfl⟩⟩
theorem isi_ok (hK : C.K = X.K) (t : Ty) : CallR X (.builtin "isinstance") (fun xs H Q => ∃ (B : Hp) (v : V) (d : D) (b : Bool), xs = [v, .ty t.name] ∧ Same B H ∧ RepB C B H v d ∧ tyF t d = some b ∧ Q (.bl b) H) := by
  intro pins s σ H xs us Q I r h
  obtain ⟨B, v, d, b, rfl, sm, hv, hb, q⟩ := h
  obtain ⟨T, h1, h2⟩ := hv.tyX sm hb
  rw [hK] at h1 h2
  exact call_isi pins s σ H _ us Q I r ⟨v, .ty t.name, .type T, .type t.name, b, rfl, .ty _, h1, h2, q⟩

/-! ### len(set(t)) -/
theorem len_le_of_sub : ∀ {l m : List Int}, l.Nodup → (∀ x ∈ l, x ∈ m) → l.length ≤ m.length
  | [], _, _, _ => Nat.zero_le _
  | x :: l, m, h, s => by
    have h1 := List.nodup_cons.mp h
    have hm : x ∈ m := s x List.mem_cons_self
    have h2 : l.length ≤ (m.erase x).length := by
      refine len_le_of_sub h1.2 fun y hy => ?_
      have hxy : y ≠ x := fun e => h1.1 (e ▸ hy)
      exact (List.mem_erase_of_ne hxy).mpr (s y (List.mem_cons_of_mem _ hy))
    rw [List.length_erase_of_mem hm] at h2
    have : 0 < m.length := List.length_pos_of_mem hm
    simp only [List.length_cons]
    omega
theorem mem_nub {x : Int} : ∀ {l : List Int}, x ∈ nub l ↔ x ∈ l
  | [] => Iff.rfl
  | y :: r => by
    unfold nub
    split
    · rename_i h
      rw [mem_nub, List.mem_cons]
      exact ⟨fun q => .inr q, fun q => q.elim (fun e => e ▸ h) fun q => q⟩
    · rw [List.mem_cons, List.mem_cons, mem_nub]
theorem nub_nodup : ∀ l : List Int, (nub l).Nodup
  | [] => .nil
  | y :: r => by
    unfold nub
    split
    · exact nub_nodup r
    · rename_i h
      exact List.nodup_cons.mpr ⟨fun q => h (mem_nub.mp q), nub_nodup r⟩
theorem set_len {ns ks : List Int} (nd : ks.Nodup) (h : ∀ k, k ∈ ks ↔ k ∈ ns) : ks.length = (nub ns).length := by
  refine Nat.le_antisymm (len_le_of_sub nd fun x hx => ?_) (len_le_of_sub (nub_nodup _) fun x hx => ?_)
  · exact mem_nub.mpr ((h x).mp hx)
  · exact (h x).mpr (mem_nub.mp hx)
/-- len(set(e)) -/
theorem pe_lenset {W : WX} {a : Expr} {ta : TE} {p p2 q pos : Pos} (hK : C.K = X.K) (hg : Gl X "len") (hm : X.mg "len" = none) (hg2 : Gl X "set") (hm2 : X.mg "set" = none) (ha : PE X a ta) (hc : X.calm = true)
    (na : starEach [a] X.env = (false, eval a X.env) :: starEach [] X.env) :
    PE X (.Call (.Name "len" p) [.Call (.Name "set" p2) [a] [] q] [] pos) (fun σ H Q => ta σ H fun x H1 => ∃ (B : Hp) (γ d z : D), Same B H1 ∧ C.rep γ H1 ∧ RepB C B H1 x d ∧ lensetF d = some z ∧ Done C B H1 γ .fresh z Q) := by
  refine ⟨fun pins s σ H Q I h => ?_⟩
  refine Call_ (ld_blt I hg hm boot_len ?_)
  refine PyProof.Rows.callWith_builtin1 (PyProof.Rows.args_cons ?_ rfl) rfl rfl
  refine Call_ (ld_blt I hg2 hm2 boot_set ?_)
  refine PyProof.Rows.callWith_type1 (PyProof.Rows.args_cons (thn (ha.run pins s σ H _ I h) ?_) na) na rfl
  intro v s1 hv
  obtain ⟨x, H1, I1, r1, B, γ, d, z, sm, g, hx, hz, q⟩ := hv
  refine PyProof.Rows.args_nil ?_
  unfold lensetF at hz
  split at hz
  · rename_i xs
    obtain ⟨ns, he, hz⟩ := Option.bind_eq_some_iff.mp hz
    split at hz
    · rename_i hl
      cases hz
      obtain ⟨t, vs, rfl, _, ht, rt⟩ := hx.tup sm
      rw [hK] at ht
      cases r1
      have e := rt.intsD he
      subst e
      obtain ⟨its, r, ht2, hz⟩ := I1.tuple ht
      refine call_set_tupI ns (I1.ok.hd hc) ht2 (by simpa using intsAre_of r) (by unfold scanBound; omega) fun h' tk c hS hcl hk => ?_
      refine PyProof.Rows.args_nil ?_
      obtain ⟨o, es, ep, t2, ho, hex, hd, _, hnd, hmem, _, hf, hn, _⟩ := hS
      have I2 : Inv X pins σ H1 { s1 with heap := h', toks := tk } := I1.kept fun b o e => hk b o e
      have e3 : es.size = (nub ns).length := by
        have := set_len (ns := ns) hnd (fun k => by rw [← hmem k]; exact decide_eq_true_iff)
        rw [List.length_map, Array.length_toList] at this
        exact this
      exact call_len_set ho hex hd hf (by omega) ⟨.int es.size, H1, I2.tok _, ⟨_, rfl⟩, by rw [e3]; exact q.flat sm g rfl (.int _)⟩
    · cases hz
  · cases hz
end
end PyI

set_option maxRecDepth 100000
/-! PyI, part W: rules that the library lacks. -/
namespace PyI
open PySem PySem.Spec PyProof.Rows L2

section
variable {prog : Program} {w : World} {A : Around} {E : Value → Shared → Prop} {s : Shared}
theorem rev_adjust (n : Nat) : Builtin.Slice.sliceAdjust none none (-1) (n : Int) = ((n : Int) - 1, -1) := by
  unfold Builtin.Slice.sliceAdjust
  have h : (-1 : Int) < 0 := by decide
  simp only [h, if_true]
theorem rev_places (n : Nat) : Builtin.Slice.slicePlaces ((n : Int) - 1) (-1) (-1) = n := by
  unfold Builtin.Slice.slicePlaces
  have h : ¬ ((-1 : Int) > 0) := by decide
  rw [if_neg h]
  by_cases hn : n = 0
  · subst hn; rfl
  · rw [if_pos (by omega)]
    have e : -(-1 : Int) = 1 := by decide
    rw [e, Int.ediv_one]
    omega
theorem rev_applied {sl : Addr} {vl vu vs : Value} {n : Nat} {Q : Int × Int × Nat → Shared → Prop} (hs : s.heap.IsSliceOf sl vl vu vs) (pl : IsPart vl none) (pu : IsPart vu none) (ps : IsPart vs (some (-1)))
    (h : Q ((n : Int) - 1, -1, n) s) : wpAny (model prog w) A (Builtin.Slice.sliceApplied (.ref sl) (pure (n : Int))) Q E s := by
  obtain ⟨o, h1, h2, h3⟩ := id hs
  unfold Builtin.Slice.sliceApplied Builtin.Slice.sliceFields
  refine wpAny_bind (wpAny_bind (wpAny_field h1 h3 (x := vl) rfl (wpAny_bind (wpAny_field h1 h3 (x := vu) rfl
    (wpAny_bind (wpAny_field h1 h3 (x := vs) rfl (wpAny_pure ?_)))))))
  refine wpAny_bind (HT.slicePart_ ps ?_)
  show wpAny _ _ (if ((-1 : Int) == 0) = true then _ else _) _ _ s
  rw [if_neg (by decide)]
  refine wpAny_bind (HT.slicePart_ pl (wpAny_bind (HT.slicePart_ pu (wpAny_bind (wpAny_pure ?_)))))
  show wpAny _ _ (match Builtin.Slice.sliceAdjust none none (-1) (n : Int) with | (lo, hi) => pure (lo, (-1 : Int), Builtin.Slice.slicePlaces lo hi (-1))) _ _ s
  rw [rev_adjust]
  show wpAny _ _ (pure ((n : Int) - 1, (-1 : Int), Builtin.Slice.slicePlaces ((n : Int) - 1) (-1) (-1))) _ _ s
  rw [rev_places]
  exact wpAny_pure h
theorem rev_pick (xs : Array Value) : ((List.range xs.size).filterMap fun (k : Nat) => xs[(((xs.size : Nat) : Int) - 1 + (k : Int) * (-1)).toNat]?).toArray = xs.toList.reverse.toArray := by
  have key : ∀ n, n ≤ xs.size → (List.range n).filterMap (fun (k : Nat) => xs[(((xs.size : Nat) : Int) - 1 + (k : Int) * (-1)).toNat]?) = xs.toList.reverse.take n := by
    intro n
    induction n with
    | zero => intro _; rfl
    | succ n ih =>
      intro h
      have hr : xs.toList.reverse[n]? = xs[xs.size - 1 - n]? := by
        rw [List.getElem?_reverse (by simp; omega), Array.length_toList, Array.getElem?_toList]
      have ei : (((xs.size : Nat) : Int) - 1 + (n : Int) * (-1)).toNat = xs.size - 1 - n := by omega
      rw [List.range_succ, List.filterMap_append, ih (by omega), List.take_succ, hr]
      congr 1
      rw [List.filterMap_cons, List.filterMap_nil, ei]
      cases xs[xs.size - 1 - n]? <;> rfl
  rw [key _ (Nat.le_refl _), List.take_of_length_le (by simp)]
theorem getItem_tuple_rev {t sl : Addr} {items : Array Value} {vl vu vs : Value} {Q : Value → Shared → Prop} (ht : IsTup s.heap t items) (hs : s.heap.IsSliceOf sl vl vu vs) (pl : IsPart vl none) (pu : IsPart vu none) (ps : IsPart vs (some (-1)))
    (h : Q (.ref s.heap.objs.size) { s with heap := s.heap.push { cls := .type "tuple", data := .seq items.toList.reverse.toArray } })
    (hsz : items.size ≤ sizeLine) : wpAny (model prog w) A (getItem (.ref t) (.ref sl)) Q E s := by
  have hz : sizeOk (.seq items.toList.reverse.toArray) := by
    show items.toList.reverse.toArray.size ≤ sizeLine
    simpa using hsz
  obtain ⟨o, h1, h2, h3⟩ := id hs
  have isl : s.TypeIs (.ref sl) "slice" := ⟨o, h1, h2⟩
  unfold getItem
  try with_reducible refine wpAny_holding ?_
  first | refine wpAny_bind (wpAny_pure ?_) | skip
  refine wpAny_bind (wpAny_sequenceKey ht.typeIs (by decide) ?_)
  have slot := PyProof.Rows.slot_tuple_getitem
  refine wpAny_bind (wpAny_callSpecial?_slot (name := Str.ofString "__getitem__") ht.typeIs slot (wpAny_call_entry slot ht.typeIs entry_tuple_getitem ?_ (args_tuple_getitem _ _)))
  show wpAny _ _ (Builtin.Tuple.tupleItemsOf (.ref t) >>= _) _ _ s
  refine wpAny_bind (tupleItemsOf_ ht ?_)
  refine wpAny_bind (wpAny_typeOf isl ?_)
  rw [if_pos (by decide)]
  refine wpAny_bind (rev_applied hs pl pu ps ?_)
  have hno : ¬ (((((items.size : Nat) : Int) - 1) == 0 && (-1 : Int) == 1 && items.size == items.size) = true) := by
    rw [show ((-1 : Int) == 1) = false by decide, Bool.and_false, Bool.false_and]
    exact Bool.false_ne_true
  show wpAny _ _ (if ((((items.size : Nat) : Int) - 1) == 0 && (-1 : Int) == 1 && items.size == items.size) = true then _ else _) _ _ s
  rw [if_neg hno, rev_pick]
  first
    | exact wpAny_bind (m := Builtin.Tuple.tupleExact _) (wpAny_newObj_type (wpAny_pure ⟨_, rfl, wpAny_pure h⟩) hz)
    | exact wpAny_bind (m := Builtin.Tuple.tupleExact _) (wpAny_newObj_type (wpAny_bind (wpAny_pure (wpAny_pure ⟨_, rfl, wpAny_pure h⟩))) hz)
    | exact wpAny_bind (wpAny_bind (m := Builtin.Tuple.tupleExact _) (wpAny_newObj_type (wpAny_pure (wpAny_pure ⟨_, rfl, wpAny_pure h⟩)) hz))
    | exact wpAny_bind (wpAny_bind (m := Builtin.Tuple.tupleExact _) (wpAny_newObj_type (wpAny_pure ⟨_, rfl, wpAny_pure h⟩) hz))
end
section
variable {X : Cx}
theorem rev_txt (z : Str) : ((Builtin.Str.strSliceIndices none none (-1) z.length).filterMap (z.cps[·]?)).toArray = z.cps.toList.reverse.toArray := by
  have e : Builtin.Str.strSliceIndices none none (-1) z.length = sliceRange ((z.length : Int) - 1) (-1) (-1) := by
    unfold Builtin.Str.strSliceIndices
    have h : ¬ ((-1 : Int) > 0) := by decide
    simp only [if_neg h]
  rw [e, PySem.W.krv_sliceRange]
  congr 1
  rw [List.filterMap_map]
  refine List.ext_getElem? fun i => ?_
  have full : ∀ n : Nat, n ≤ z.cps.size → (List.range n).filterMap (fun k => z.cps[z.length - 1 - k]?) = (List.range n).map fun k => (z.cps[z.length - 1 - k]?).getD 0 := by
    intro n
    induction n with
    | zero => intro _; rfl
    | succ n ih =>
      intro hn
      rw [List.range_succ, List.filterMap_append, List.map_append, ih (by omega)]
      have hl : z.length = z.cps.size := rfl
      have hlt : z.length - 1 - n < z.cps.size := by omega
      simp [Array.getElem?_eq_getElem hlt]
  show ((List.range z.length).filterMap fun k => z.cps[z.length - 1 - k]?)[i]? = _
  rw [full z.length (Nat.le_refl _)]
  have hl : z.length = z.cps.size := rfl
  by_cases hi : i < z.cps.size
  · have hlt : z.length - 1 - i < z.cps.size := by omega
    rw [List.getElem?_map, List.getElem?_range (by omega), List.getElem?_reverse (by simpa using hi)]
    simp only [Option.map_some, Array.getElem?_eq_getElem hlt, Option.getD_some, Array.length_toList, Array.getElem?_toList]
    have e2 : z.cps.size - 1 - i = z.length - 1 - i := by rw [hl]
    rw [e2, Array.getElem?_eq_getElem hlt]
  · rw [List.getElem?_eq_none (by simp; omega), List.getElem?_eq_none (by simp; omega)]
/-- x[::-1], a list, a tuple or a text -/
def tRevA (K : PySem.W.Frag) (te : TE) : TE := fun σ H Q => te σ H fun x H1 => (∃ z, x = .str z ∧ z.length ≤ sizeLine ∧ Q (.str ⟨z.cps.toList.reverse.toArray⟩) H1) ∨ ∃ a xs, x = .ref a ∧ ((SqL K H1 a xs ∧ ∀ p, H1 p = none → Q (.ref p) (upd H1 p (.lst xs.reverse))) ∨ (SqT K H1 a xs ∧ Fz Q H1 xs.reverse))
theorem pe_revA {e : Expr} {te : TE} {k : Nat} {p1 p2 p3 pos : Pos} (he : PE X e te) : PE X (.Subscript e (.Slice none none (some (.UnaryOp .USub (.Constant (.int 1) k p1) p2)) p3) pos) (tRevA X.K te) := by
  refine ⟨fun pins s σ H Q I h => ?_⟩
  refine Subscript_ (thn (he.run pins s σ H _ I h) fun v s1 ⟨x, H1, I1, r1, q1⟩ => ?_)
  have hst : PO X (some (.UnaryOp .USub (.Constant (.int 1) k p1) p2)) (tPart (tUn (rU fun i => .int (-i)) (tC (.int 1)))) := po_some (pe_un un_neg pe_int)
  have n1 := po_none.run (X := X) pins s1 σ H1 (fun o H2 => o = none ∧ H2 = H1) I1 ⟨rfl, rfl⟩
  refine wpAny_Slice (thn n1 fun vl s2 ⟨l, H2, I2, pl, el, e2⟩ => ?_)
  subst el e2
  have n2 := po_none.run (X := X) pins s2 σ H2 (fun o H3 => o = none ∧ H3 = H2) I2 ⟨rfl, rfl⟩
  refine thn n2 fun vu s3 ⟨u, H3, I3, pu, eu, e3⟩ => ?_
  subst eu e3
  have n3 := hst.run pins s3 σ H3 (fun o H4 => o = some (-1) ∧ H4 = H3) I3 ⟨1, rfl, -1, rfl, rfl, rfl⟩
  refine thn n3 fun vs s4 ⟨o, H4, I4, ps, eo, e4⟩ => ?_
  subst eo e4
  generalize hsl : ({ cls := .type "slice", data := .fields #[vl, vu, vs] } : Obj) = slo
  have I5 : Inv X pins σ H4 { s4 with heap := s4.heap.push slo } := I4.kept (t' := s4.toks) fun b ob q => Heap.get?_push_of_some _ q
  have isl : (s4.heap.push slo).IsSliceOf s4.heap.objs.size vl vu vs := by subst hsl; exact Heap.IsSliceOf.new _ vl vu vs
  rcases q1 with ⟨z, rfl, hz, q⟩ | ⟨a, xs, rfl, q⟩
  · obtain ⟨t, rfl⟩ := r1
    cases pl
    cases pu
    cases ps with
    | int _ tk =>
      show wpAny (model X.prog X.w) X.A (subscriptTail e _ (.str z t) (.ref s4.heap.objs.size)) (EP X pins σ Q) X.xe { s4 with heap := s4.heap.push slo }
      refine tail_any (T := "str") (ops := [.str z t, .ref s4.heap.objs.size]) (typeIs_str _ _ _) (PySem.F.slot_str_getitem.lookup) ?_ (by with_unfolding_all rfl)
      refine wpAny_getItem_str_slice (l := none) (u := none) (st := some (-1, tk)) isl rfl ?_
      show Made.post (if ((-1 : Int) == 1 && _) = true then Made.val (.str z t) else Made.str ⟨((Builtin.Str.strSliceIndices none none (-1) z.length).filterMap (z.cps[·]?)).toArray⟩) (EP X pins σ Q) _
      rw [show ((-1 : Int) == 1) = false from rfl, Bool.false_and, if_neg Bool.false_ne_true, rev_txt]
      exact ⟨by show z.cps.toList.reverse.toArray.size ≤ sizeLine; rw [List.size_toArray, List.length_reverse, Array.length_toList]; exact hz, .str _, H4, I5.tok _, ⟨_, rfl⟩, q⟩
  cases r1
  rcases q with ⟨hx, q⟩ | ⟨hx, q⟩
  · obtain ⟨its, r, ht, hz⟩ := I5.list hx
    have hlen := r.length
    show wpAny (model X.prog X.w) X.A (subscriptTail e _ (.ref a) (.ref s4.heap.objs.size)) (EP X pins σ Q) X.xe { s4 with heap := s4.heap.push slo }
    refine tail_any (ops := [.ref a, .ref s4.heap.objs.size]) ht.isList.typeIs (PySem.slot_list_getitem.lookup) ?_ (by with_unfolding_all rfl)
    refine wpAny_getItem_list_slice ht.isList isl pl pu ps (by decide) ?_ (by rw [List.size_toArray]; omega)
    rw [PySem.W.krv_pick]
    have hn := I5.hok.fresh (Nat.le_refl _)
    refine ⟨.ref _, _, I5.laid (o := .lst xs.reverse) (t' := s4.toks) (fun b ob q => Heap.get?_push_of_some _ q) (Nat.le_refl _) ⟨?_, _, 0, r.reverse, Heap.get?_push_size _ rfl⟩, rfl, q _ hn⟩
    rw [List.length_reverse]; exact hz
  · obtain ⟨its, r, ht, hz⟩ := I5.tuple hx
    have hlen := r.length
    show wpAny (model X.prog X.w) X.A (subscriptTail e _ (.ref a) (.ref s4.heap.objs.size)) (EP X pins σ Q) X.xe { s4 with heap := s4.heap.push slo }
    refine tail_any (ops := [.ref a, .ref s4.heap.objs.size]) ht.typeIs (PyProof.Rows.slot_tuple_getitem.lookup) ?_ (by with_unfolding_all rfl)
    refine getItem_tuple_rev ht isl pl pu ps ?_ (by rw [List.size_toArray]; omega)
    have hn := I5.hok.fresh (Nat.le_refl _)
    exact laidF (t := s4.toks) I5 (by rw [List.length_reverse]; exact hz) r.reverse q
end
end PyI

set_option maxRecDepth 100000
/-! PyI, part E: when a text of the small language is the text of the program. -/
namespace PyI
open PySem PySem.Spec PyProof.Rows L2

/-! ### the look -/
def visB (sc : Scope) (x : Str) : Bool := match sc.names.lookup x with
  | some .local => true
  | some .cell => true
  | some .free => true
  | _ => false
def locB (sc : Scope) (x : Str) : Bool := match sc.names.lookup x with
  | some .local => true
  | some .cell => true
  | _ => false
def glB (sc : Scope) (x : Str) : Bool := decide (sc.names.lookup x = some .globalImplicit) && !(x == ("__debug__" : Str)) && !(x == ("__name__" : Str))
def nameB (N : List Str) (sc : Scope) (i : Nat) (x : Str) : Bool := decide (N[i]? = some x) && visB sc x && !(x == ("__debug__" : Str)) && !(x == ("__classdict__" : Str))
def constB : Cn → Const → Bool
  | .non, .none => true
  | .bl b, .bool c => b == c
  | .int i, .int j => decide (i = j)
  | .str x, .str y => decide (x = y)
  | _, _ => false
def BI.name : BI → Str
  | .len => "len" | .abs => "abs" | .min => "min" | .max => "max" | .sum => "sum" | .all => "all" | .any => "any" | .sorted => "sorted" | .repr => "repr" | .int => "int" | .str => "str" | .tuple => "tuple" | .list => "list"
def Ty.nm : Ty → Str
  | .int => "int" | .bool => "bool" | .str => "str" | .tuple => "tuple" | .list => "list" | .dict => "dict"
def plainIx : Expr → Bool
  | .Slice _ _ _ _ => false
  | _ => true
def plainTest : Expr → Bool
  | .UnaryOp .Not _ _ => false
  | .BoolOp _ _ _ => false
  | .IfExp _ _ _ _ => false
  | .Compare _ _ _ _ => false
  | _ => true
def notSet : Expr → Bool
  | .Set _ _ _ => false
  | _ => true
def notC0 : Expr → Bool
  | .Call _ _ _ _ => false
  | _ => true
def Mt.nm : Mt → Str
  | .get => "get" | .index => "index" | .count => "count" | .join => "join" | .split => "split" | .upper => "upper"
def notStar : Expr → Bool
  | .Starred _ _ => false
  | _ => true
/-- what a value is like, by its text -/
def Kd.worse : Kd → Kd → Kd
  | .fresh, .fresh => .fresh
  | .borrow, _ => .borrow
  | _, .borrow => .borrow
  | _, _ => .clean
mutual
def kd : E → Kd
  | .vb _ => .borrow
  | .v _ => .clean
  | .g _ _ => .clean
  | .idx _ _ => .clean
  | .call _ _ _ => .clean
  | .ife _ a b => (kd a).worse (kd b)
  | .and es => kds es
  | .or es => kds es
  | .mth _ _ _ => .clean
  | .efl _ _ => .clean
  | _ => .fresh
def kds : List E → Kd
  | [] => .clean
  | e :: es => (kd e).worse (kds es)
end
def kI : I → Kd
  | .e a => kd a
  | .rng1 _ => .clean
  | .rng2 _ _ => .clean
  | .rng3 _ _ _ => .clean
  | .enum a => kd a
  | .zip a b => (kd a).worse (kd b)
  | .rev a => kd a
def noB (k : Kd) : Bool := match k with
  | .borrow => false
  | _ => true
def blkN (N : List Str) (tg : Tg) : List (Str × Nat) := tg.slots.map fun i => ((N[i]?).getD Str.empty, i)
/-- a target -/
def calmB (sc : Scope) : Bool := !sc.isCoroutine
/-- the scope as a suite sees it -/
def suS (sc : Scope) : Scope := { sc with isCoroutine := true }
def clsNames (sc : Scope) : List Str → List Expr → Bool
  | [], [] => true
  | c :: cs, .Name y _ :: xs => decide (c = y) && glB sc c && clsNames sc cs xs
  | _, _ => false
def tgNames (N : List Str) (sc : Scope) : List Nat → List Expr → Bool
  | [], [] => true
  | i :: is, .Name x _ :: xs => decide (N[i]? = some x) && locB sc x && tgNames N sc is xs
  | _, _ => false
def mTg (N : List Str) (sc : Scope) : Tg → Expr → Bool
  | .one i, .Name x _ => decide (N[i]? = some x) && locB sc x
  | .tup is, .Tuple xs _ _ => calmB sc && (tgNames N sc is xs && decide (is.Nodup))
  | _, _ => false
def isTup : Expr → Bool
  | .Tuple _ _ _ => true
  | _ => false
/-- the parts of x[::-1] -/
def revStep : Option Expr → Bool
  | some (.UnaryOp .USub (.Constant (.int i) _ _) _) => decide (i = 1)
  | _ => false
def mKs : List Cn → List (Option Expr) → Bool
  | [], [] => true
  | k :: ks, some (.Constant c _ _) :: xs => constB k c && mKs ks xs
  | _, _ => false
def isRng : I → Bool
  | .rng1 _ => true
  | .rng2 _ _ => true
  | _ => false
/-! patterns of one's own: a call whose name begins with a dot stands for a pattern -/
def isDot (f : Str) : Bool := match f.cps.toList with
  | 46 :: _ => true
  | _ => false
/-- texts that raise nothing and change nothing -/
def smE : E → Bool
  | .c _ | .v _ | .vb _ => true
  | .bi .len [.v _] => true
  | .bi .len [.vb _] => true
  | .idx (.v _) (.c _) => true
  | _ => false
def sm3 (es : List E) : Bool := (es.drop 2).all smE
def smOk (f : Str) (es : List E) : Bool := (decide (f ≠ ".qapp") || sm3 es) && (decide (f ≠ ".pick") || (es.drop 1).all smE)
/-- which are starred -/
def flagsOf (xs : List Expr) : List Bool := xs.map fun x => !notStar x
/-- without the stars -/
def unS : List Bool → List Expr → Option (List Expr)
  | [], [] => some []
  | true :: bs, .Starred e _ :: xs => (unS bs xs).map (e :: ·)
  | false :: bs, x :: xs => if notStar x then (unS bs xs).map (x :: ·) else none
  | _, _ => none
def simpX : Expr → Bool
  | .Name _ _ => true
  | .Constant _ _ _ => true
  | _ => false
/-- behind the first star: names, constants -/
def sfxOk : List Bool → List Expr → Bool
  | true :: _, _ :: xs => xs.all simpX
  | false :: bs, _ :: xs => sfxOk bs xs
  | _, _ => true
/-- displays with stars (.t and the flags), calls whose last argument is starred (.* and the name) -/
def nArg (c : Str) : Nat := match fldC c with
  | some _ => 1
  | none => 0
def mXS (sc : Scope) (f : Str) (x : Expr) : Option (List Expr) := match f.cps.toList with
  | 46 :: 116 :: r => (match x with
    | .Tuple xs _ _ => if sfxOk (r.map fun c => decide (c = 49)) xs then unS (r.map fun c => decide (c = 49)) xs else none
    | _ => none)
  | 46 :: 110 :: r => (match x with
    | .Call (.Name y _) xs [] _ => if decide (y = ⟨r.toArray⟩) && glB sc y && decide (xs.length = nArg y) then some xs else none
    | _ => none)
  | 46 :: 105 :: r => (match x with
    | .Call (.Name y _) [e, .Name z _] [] _ => if decide (y = ("isinstance" : Str)) && glB sc y && decide (z = ⟨r.toArray⟩) && glB sc z && notStar e then some [e] else none
    | _ => none)
  | 46 :: 102 :: r => (match x with
    | .Attribute (.Name z q) y _ => if decide (y = ⟨r.toArray⟩) then some [.Name z q] else none
    | _ => none)
  | 46 :: 42 :: r => (match x with
    | .Call (.Name y _) xs [] _ => if decide (y = ⟨r.toArray⟩) && glB sc y && (flagsOf xs).dropLast.all (!·) && decide ((flagsOf xs).getLast? = some true) then unS (flagsOf xs) xs else none
    | _ => none)
  | _ => none
/-- the parts of a pattern -/
def mX (sc : Scope) (f : Str) (x : Expr) : Option (List Expr) :=
  if f = ".qapp" then (match x with
    | .Call (.Attribute (.Subscript q k _) y p2) [e] [] p3 => if decide (y = ("append" : Str)) && plainIx k && notStar e && (p2.endLine == p3.line) then some [q, k, e] else none
    | _ => none)
  else if f = ".qpop" then (match x with
    | .Call (.Attribute (.Subscript q k _) y p2) [.Constant (.int 0) _ _] [] p3 => if decide (y = ("pop" : Str)) && plainIx k && (p2.endLine == p3.line) then some [q, k] else none
    | _ => none)
  else if f = ".qne" then (match x with
    | .Compare (.Subscript q k _) [.NotEq] [.List [] _] _ => if plainIx k then some [q, k] else none
    | _ => none)
  else if f = ".pick" then (match x with
    | .Call (.Subscript (.List [.Name a _, .Name b _] _) i _) xs [] _ => if decide (a = ("ranks_rule" : Str)) && decide (b = ("polite_rule" : Str)) && glB sc a && glB sc b && plainIx i then some (i :: xs) else none
    | _ => none)
  else if f = ".qget" then (match x with
    | .Subscript (.Subscript q k _) (.Constant (.int 0) _ _) _ => if plainIx k then some [q, k] else none
    | _ => none)
  else mXS sc f x
mutual
def mE (N : List Str) (sc : Scope) : E → Expr → Bool
  | .c k, x => match x with
    | .Constant c _ _ => constB k c
    | _ => false
  | .v i, x => match x with
    | .Name y _ => nameB N sc i y
    | _ => false
  | .vb i, x => match x with
    | .Name y _ => nameB N sc i y
    | _ => false
  | .g y _, x => match x with
    | .Name z _ => decide (y = z) && glB sc y
    | _ => false
  | .neg a, x => match x with
    | .UnaryOp .USub a' _ => mE N sc a a'
    | _ => false
  | .not a, x => match x with
    | .UnaryOp .Not a' _ => mE N sc a a'
    | _ => false
  | .bin op a b, x => match x with
    | .BinOp a' op' b' _ => decide (op.op = op') && mE N sc a a' && mE N sc b b'
    | _ => false
  | .cmp op a b, x => match x with
    | .Compare a' [op'] [b'] _ => decide (op.op = op') && !behindInMarks op' b' && mE N sc a a' && mE N sc b b'
    | _ => false
  | .chain op op2 a b c, x => match x with
    | .Compare a' [op', op2'] [b', c'] _ => decide (op.op = op') && decide (op2.op = op2') && !lastMarks [op', op2'] [b', c'] && mE N sc a a' && mE N sc b b' && mE N sc c c'
    | _ => false
  | .and es, x => match x with
    | .BoolOp .And xs _ => mEs N sc es xs
    | _ => false
  | .or es, x => match x with
    | .BoolOp .Or xs _ => mEs N sc es xs
    | _ => false
  | .ife t a b, x => match x with
    | .IfExp t' a' b' _ => mE N sc t t' && mE N sc a a' && mE N sc b b'
    | _ => false
  | .tup es, x => match x with
    | .Tuple xs _ _ => mEs N sc es xs && noB (kds es) && decide (es.length ≤ 60)
    | _ => false
  | .lst es, x => match x with
    | .List xs _ => mEs N sc es xs && noB (kds es) && decide (es.length ≤ 60)
    | _ => false
  | .idx a i, x => match x with
    | .Subscript a' i' _ => plainIx i' && mE N sc a a' && mE N sc i i'
    | _ => false
  | .slc a lo hi, x => match x with
    | .Subscript a' (.Slice lo' hi' none _) _ => mE N sc a a' && mO N sc lo lo' && mO N sc hi hi'
    | _ => false
  | .rev a, x => match x with
    | .Subscript a' (.Slice none none (some (.UnaryOp .USub (.Constant (.int i) _ _) _)) _) _ => decide (i = 1) && mE N sc a a'
    | _ => false
  | .eis i cs tp, x => match x with
    | .Call (.Name y _) [.Name z _, c'] [] _ => decide (y = ("isinstance" : Str)) && glB sc y && nameB N sc i z && (match tp, c' with
      | false, .Name w _ => decide (cs = [w]) && glB sc w
      | true, .Tuple ws _ _ => clsNames sc cs ws && decide (cs.length ≤ 60)
      | _, _ => false)
    | _ => false
  | .efl i f, x => match x with
    | .Attribute (.Name z _) y _ => nameB N sc i z && decide (y = f)
    | _ => false
  | .call f _ es, x => if isDot f = true then (match mX sc f x with
      | some xs => calmB sc && notStar x && smOk f es && mEs N sc es xs && noB (kds es)
      | none => false)
    else match x with
      | .Call (.Name y _) xs [] _ => calmB sc && decide (f = y) && glB sc f && mEs N sc es xs && noB (kds es)
      | _ => false
  | .bi f es, x => match x with
    | .Call (.Name y _) (e' :: xs) [] _ => calmB sc && decide (f.name = y) && glB sc y && mEs N sc es (e' :: xs)
    | _ => false
  | .isi a t, x => match x with
    | .Call (.Name y _) [a', .Name z _] [] _ => decide (y = ("isinstance" : Str)) && glB sc y && decide (z = t.nm) && glB sc z && mE N sc a a'
    | _ => false
  | .lenset a, x => match x with
    | .Call (.Name y _) [.Call (.Name z _) [a'] [] _] [] _ => calmB sc && decide (y = ("len" : Str)) && glB sc y && decide (z = ("set" : Str)) && glB sc z && mE N sc a a'
    | _ => false
  | .mth m o es, x => match x with
    | .Call (.Attribute o' y ap) xs [] cp => decide (y = m.nm) && notC0 o' && (ap.endLine == cp.line) && decide (xs.length ≤ 2) && mE N sc o o' && mEs N sc es xs && noB (kds es)
    | _ => false
  | .lc tg it ifs elt, x => match x with
    | .ListComp elt' [⟨tg', it', ifs', 0⟩] scope _ => calmB sc && blkC N sc scope (blkN N tg) && mTg N scope tg tg' && mI N sc it it' && mEs N scope ifs ifs' && decide (ifs'.length ≤ 1) && mE N scope elt elt' && noB (kd elt) && notSet it' && (isTup tg' || plainI it)
    | _ => false
  | .cv f it, x => match x with
    | .Call (.Name y _) [x'] [] _ => calmB sc && decide (f.name = y) && glB sc y && (decide (f = .tuple) || decide (f = .list)) && isRng it && mI N sc it x'
    | _ => false
  | .dct ks es, x => match x with
    | .Dict keys values _ => mKs ks keys && mEs N sc es values && noB (kds es) && decide (keys.length ≤ 15) && decide (keys.length = values.length)
    | _ => false
def mEs (N : List Str) (sc : Scope) : List E → List Expr → Bool
  | [], x => match x with
    | [] => true
    | _ => false
  | e :: es, x => match x with
    | y :: ys => mE N sc e y && notStar y && mEs N sc es ys
    | _ => false
def mO (N : List Str) (sc : Scope) : Option E → Option Expr → Bool
  | none, x => match x with
    | none => true
    | _ => false
  | some e, x => match x with
    | some y => mE N sc e y
    | _ => false
def mI (N : List Str) (sc : Scope) : I → Expr → Bool
  | .e a, x => mE N sc a x
  | .rng1 a, x => match x with
    | .Call (.Name y _) [a'] [] _ => decide (y = ("range" : Str)) && glB sc y && mE N sc a a' && notStar a'
    | _ => false
  | .rng2 a b, x => match x with
    | .Call (.Name y _) [a', b'] [] _ => decide (y = ("range" : Str)) && glB sc y && mE N sc a a' && mE N sc b b' && notStar a' && notStar b'
    | _ => false
  | .rng3 a b c, x => match x with
    | .Call (.Name y _) [a', b', c'] [] _ => decide (y = ("range" : Str)) && glB sc y && mE N sc a a' && mE N sc b b' && mE N sc c c' && notStar a' && notStar b' && notStar c'
    | _ => false
  | .enum a, x => match x with
    | .Call (.Name y _) [a'] [] _ => decide (y = ("enumerate" : Str)) && glB sc y && mE N sc a a' && notStar a'
    | _ => false
  | .zip a b, x => match x with
    | .Call (.Name y _) [a', b'] [] _ => decide (y = ("zip" : Str)) && glB sc y && mE N sc a a' && mE N sc b b' && notStar a' && notStar b'
    | _ => false
  | .rev a, x => match x with
    | .Call (.Name y _) [a'] [] _ => decide (y = ("reversed" : Str)) && glB sc y && mE N sc a a' && notStar a'
    | _ => false
/-- a source whose items come one by one -/
def plainI : I → Bool
  | .enum _ => false
  | .zip _ _ => false
  | _ => true
end

mutual
/-- what a text calls, what it names -/
def allE (p : Str → Sem → Prop) (q : Str → D → Prop) : E → Prop
  | .c _ | .v _ | .vb _ | .eis _ _ _ | .efl _ _ => True
  | .g x d => q x d
  | .neg a | .not a | .rev a | .isi a _ | .lenset a => allE p q a
  | .bin _ a b | .cmp _ a b | .idx a b => allE p q a ∧ allE p q b
  | .chain _ _ a b c => allE p q a ∧ allE p q b ∧ allE p q c
  | .ife a b c => allE p q a ∧ allE p q b ∧ allE p q c
  | .and es | .or es | .tup es | .lst es | .bi _ es | .dct _ es => allEs p q es
  | .cv _ it => allI p q it
  | .slc a lo hi => allE p q a ∧ allO p q lo ∧ allO p q hi
  | .call f m es => p f m ∧ allEs p q es
  | .mth _ o es => allE p q o ∧ allEs p q es
  | .lc _ it ifs elt => allI p q it ∧ allEs p q ifs ∧ allE p q elt
def allEs (p : Str → Sem → Prop) (q : Str → D → Prop) : List E → Prop
  | [] => True
  | e :: es => allE p q e ∧ allEs p q es
def allO (p : Str → Sem → Prop) (q : Str → D → Prop) : Option E → Prop
  | none => True
  | some e => allE p q e
def allI (p : Str → Sem → Prop) (q : Str → D → Prop) : I → Prop
  | .e a | .rng1 a | .enum a | .rev a => allE p q a
  | .rng2 a b | .zip a b => allE p q a ∧ allE p q b
  | .rng3 a b c => allE p q a ∧ allE p q b ∧ allE p q c
end

/-! ### the state at a place of a def -/
/-- an error's own dict -/
def ErF (C : Gho) (B' H' : Hp) (fs : List (Str × D)) (od : Option Addr) : Prop := match fs, od with
    | [], none => True
    | [(f, d)], some p => ∃ v, H' p = some (.xd [(f, v)]) ∧ B' p = none ∧ ¬ C.U p ∧ Rep C.K C.hv B' v d
    | _, _ => False
theorem ErF.ext {C : Gho} {B H B' H' : Hp} {fs : List (Str × D)} {od : Option Addr} (x : Ext C.U B H B' H') (h : ErF C B H fs od) : ErF C B' H' fs od := by
  match fs, od, h with
  | [], none, _ => trivial
  | [(f, d)], some p, h =>
    obtain ⟨v, h1, h2, h3, h4⟩ := h
    refine ⟨v, x.keep _ _ h1 h3, ?_, h3, Rep.mono x.b _ _ h4⟩
    cases e : B' p with
    | none => rfl
    | some o =>
      rcases x.new p o e with q | ⟨_, q⟩
      · rw [h2] at q; cases q
      · rw [h1] at q; cases q
  | [], some _, h => exact h.elim
  | [_], none, h => exact h.elim
  | _ :: _ :: _, _, h => exact h.elim
def isO : Sl → Bool
  | .ol _ => true
  | .od _ => true
  | _ => false
structure St (C : Gho) (H0 B : Hp) (σ : L2.St) (H : Hp) (ρ : Rho) (γ : D) : Prop where
  sub : Same B H
  uB : ∀ a, C.U a → B a = none
  gh : C.rep γ H
  len : σ.length = ρ.length
  val : ∀ (i : Nat) (d : D), ρ[i]? = some (.val d) → ∃ v, σ[i]? = some (some v) ∧ Rep C.K C.hv B v d
  ol : ∀ (i : Nat) (xs : List D), ρ[i]? = some (.ol xs) → ∃ l vs, σ[i]? = some (some (.ref l)) ∧ H l = some (.lst vs) ∧ B l = none ∧ ¬ C.U l ∧ H0 l = none ∧ Reps C.K C.hv B vs xs
  od : ∀ (i : Nat) (ks : List (L2.Key × D)), ρ[i]? = some (.od ks) → ∃ l kvs, σ[i]? = some (some (.ref l)) ∧ H l = some (.dK kvs) ∧ B l = none ∧ ¬ C.U l ∧ H0 l = none ∧ RepKv C.K C.hv B kvs ks
  er : ∀ (i : Nat) (L : List Str) (c : Str) (fs : List (Str × D)), ρ[i]? = some (.er L c fs) → ∃ a od, σ[i]? = some (some (.ref a)) ∧ C.er L c a od ∧ ErF C B H fs od
  apart : ∀ (i j : Nat) (s t : Sl) (l : Addr), ρ[i]? = some s → ρ[j]? = some t → isO s = true → isO t = true → σ[i]? = some (some (.ref l)) → σ[j]? = some (some (.ref l)) → i = j
section
variable {C : Gho} {H0 B H B' H' : Hp} {σ : L2.St} {ρ : Rho} {γ γ' : D}
theorem Ext.uB (x : Ext C.U B H B' H') (g : C.rep γ H) (u : ∀ a, C.U a → B a = none) : ∀ a, C.U a → B' a = none := fun a ha => by
  cases e : B' a with
  | none => rfl
  | some o =>
    rcases x.new a o e with h | ⟨_, h⟩
    · rw [u a ha] at h; cases h
    · exact absurd h (C.has γ H a g ha)
theorem St.ext (S : St C H0 B σ H ρ γ) (x : Ext C.U B H B' H') (g : C.rep γ' H') : St C H0 B' σ H' ρ γ' where
  sub := x.s
  uB := x.uB S.gh S.uB
  gh := g
  len := S.len
  val := fun i d h => by
    obtain ⟨v, h1, h2⟩ := S.val i d h
    exact ⟨v, h1, Rep.mono x.b _ _ h2⟩
  ol := fun i xs h => by
    obtain ⟨l, vs, h1, h2, h3, h4, h5, h6⟩ := S.ol i xs h
    refine ⟨l, vs, h1, x.keep _ _ h2 h4, ?_, h4, h5, Reps.mono x.b _ _ h6⟩
    cases e : B' l with
    | none => rfl
    | some o =>
      rcases x.new l o e with q | ⟨_, q⟩
      · rw [h3] at q; cases q
      · rw [h2] at q; cases q
  od := fun i xs h => by
    obtain ⟨l, vs, h1, h2, h3, h4, h5, h6⟩ := S.od i xs h
    refine ⟨l, vs, h1, x.keep _ _ h2 h4, ?_, h4, h5, RepKv.mono x.b _ _ h6⟩
    cases e : B' l with
    | none => rfl
    | some o =>
      rcases x.new l o e with q | ⟨_, q⟩
      · rw [h3] at q; cases q
      · rw [h2] at q; cases q
  er := fun i L c fs h => by
    obtain ⟨a, od, h1, h2, h3⟩ := S.er i L c fs h
    exact ⟨a, od, h1, h2, h3.ext x⟩
  apart := S.apart
end

/-! ### readings -/
/-- an error as it lies -/
def ExcIs (C : Gho) (mg : Str → Option Value) (B' H' : Hp) (c : Str) (fs : List (Str × D)) (cls : Value) (od : Option Addr) : Prop :=
  ∃ a, mg c = some (.ref a) ∧ cls = .ref a ∧ ErF C B' H' fs od
/-- what is asked of an outcome -/
def Fin {α : Type} (C : Gho) (mg : Str → Option Value) (W : WX) (B : Hp) (σ : L2.St) (H : Hp) (r : R α) (f : α → D → Prop) : Prop := match r with
  | .ok a g => f a g
  | .exc c fs g => ∀ cls od B' H', Ext C.U B H B' H' → C.rep g H' → ExcIs C mg B' H' c fs cls od → W cls od σ H'
  | .no => False
def tE (C : Gho) (mg : Str → Option Value) (H0 : Hp) (W : WX) (e : E) : TE := fun σ H Q => ∃ B ρ γ, St C H0 B σ H ρ γ ∧ Fin C mg W B σ H (ev e ρ γ) fun d g => Done C B H g (kd e) d Q
def tT (C : Gho) (mg : Str → Option Value) (H0 : Hp) (W : WX) (e : E) : TT := fun σ H Q => ∃ B ρ γ, St C H0 B σ H ρ γ ∧ Fin C mg W B σ H (ev e ρ γ) fun d g => ∃ b, d = .bl b ∧ DoneT C B H g b Q
def DoneB (C : Gho) (B H : Hp) (γ : D) (ds : List D) (Q : List V → Hp → Prop) : Prop := ∀ vs B' H', Ext C.U B H B' H' → C.rep γ H' → RepBs C B' H' vs ds → Q vs H'
def DoneC (C : Gho) (B H : Hp) (γ : D) (ds : List D) (Q : List V → Hp → Prop) : Prop := ∀ vs B' H', Ext C.U B H B' H' → C.rep γ H' → Reps C.K C.hv B' vs ds → Q vs H'
def tAb (C : Gho) (mg : Str → Option Value) (H0 : Hp) (W : WX) (es : List E) : TA := fun σ H Q => ∃ B ρ γ, St C H0 B σ H ρ γ ∧ Fin C mg W B σ H (evs es ρ γ) fun ds g => DoneB C B H g ds Q
def tAc (C : Gho) (mg : Str → Option Value) (H0 : Hp) (W : WX) (es : List E) : TA := fun σ H Q => ∃ B ρ γ, St C H0 B σ H ρ γ ∧ Fin C mg W B σ H (evs es ρ γ) fun ds g => DoneC C B H g ds Q

/-- what a def promises: f of the data -/
def spD (G : Gho → Prop) (K : PySem.W.Frag) (mg : Str → Option Value) (n : Nat) (m : Sem) : Sp := fun vs H Q E => ∃ (C : Gho) (B : Hp) (γ : D) (ds : List D), C.K = K ∧ G C ∧ (∀ n, C.hv n ≠ .non) ∧ Same B H ∧ C.rep γ H ∧ (∀ a, C.U a → B a = none) ∧ (∀ L c a od, ¬ C.er L c a od) ∧ Reps C.K C.hv B vs ds ∧ ds.length = n ∧
  match m ds γ with
  | .ok d g => Done C B H g .clean d Q
  | .exc c fs g => ∀ cls od B' H', Ext C.U B H B' H' → C.rep g H' → ExcIs C mg B' H' c fs cls od → E cls od H'
  | .no => False
def Names (K : PySem.W.Frag) (mg : Str → Option Value) (C : Gho) (x : Str) (d : D) : Prop := ∃ u v, mg x = some u ∧ RelV v u ∧ Rep K C.hv (fun _ => none) v d

/-- what is told of the classes of errors -/
def TryOk (K : PySem.W.Frag) (mg : Str → Option Value) (L : List Str) (c : Str) (D : Addr) : Prop :=
  mg c = some (.ref D) ∧ (∀ {x : Addr} {ox : Obj} {od : Option Obj}, PySem.W.KitX K (.ref x) (.ref D) (fun h => PySem.W.InstAt h x ox D od)) ∧
  (∀ x, knownE L x = true → ∃ v u, ((mg x = some u ∧ v ≠ .non) ∨ (mg x = none ∧ bootBuiltins x = some u ∧ x ≠ "__name__")) ∧ RelV v u ∧ (∀ u', RelV v u' → u' = u) ∧ PySem.W.kitOne K (.ref D) u = some (subE c x)) ∧
  PySem.W.findIn K (.ref D) "__getattribute__" = some (some (.builtin "BaseException.__getattribute__")) ∧ PySem.W.findIn K (.ref D) "__getattr__" = some none ∧ PySem.W.subIn K (.ref D) (.type "BaseException") = some true ∧
  PySem.W.hasDictIn K D = true ∧ ∀ f, fldC c = some f → PySem.W.findIn K (.ref D) f = some none
/-- an error that a suite holds -/
def ErrAt (X : Cx) (L : List Str) (c : Str) (a : Addr) (od : Option Addr) : Prop := ∃ (oe : Obj) (D : Addr), (a, oe) ∈ X.pn ∧ Zc (.ref D) od oe ∧ (∃ vs, oe.data = .fields vs) ∧ TryOk X.K X.mg L c D
def biNames : List Str := ["len", "abs", "min", "max", "sum", "all", "any", "sorted", "repr", "int", "str", "tuple", "list", "isinstance", "bool", "dict", "set", "range", "enumerate", "zip", "reversed"]
structure XOk (G : Gho → Prop) (X : Cx) (N : List Str) (sc₀ : Scope) (k : Nat) (C : Gho) : Prop where
  hN : X.N = N
  nd : X.N.Nodup
  sc : ∀ x q, sc₀.names.lookup x = some q → ∃ q', X.env.scope.names.lookup x = some q' ∧ (q' = q ∨ (q = .free ∧ q' = .cell))
  calm : calmB sc₀ = true → X.calm = true
  nr : calmB sc₀ = true → ∀ L c a od, ¬ C.er L c a od
  er : ∀ L c a od, C.er L c a od → ErrAt X L c a od
  gd : X.A.guards = some []
  room : calmB sc₀ = true → Room k X.A
  unt : X.A.units + 200 < cLine
  hK : C.K = X.K
  hG : G C
  hn : ∀ n, C.hv n ≠ .non
  bt : ∀ x ∈ biNames, X.mg x = none
  fn : ∀ x, sc₀.names.lookup x = some .cell → X.fn x = true
theorem room_unt {k : Nat} {A : Around} (r : Room k A) : A.units + 200 < cLine := by have := r.un; omega
/-- a def that is known -/
def KnowsC (G : Gho → Prop) (P : Program) (w : World) (K : PySem.W.Frag) (mg : Str → Option Value) (base : Heap) (k : Nat) (f : Str) (m : Sem) : Prop :=
  ∃ (j : Nat) (a : Addr) (fd : FuncData) (ps : List Str), j ≤ k ∧ FnG P w K mg base j a fd ps (spD G K mg ps.length m) ∧ mg f = some (.ref a) ∧ PySem.W.keepIn K (.ref a) = true ∧ Binds K fd ps [] ∧ ∀ ds γ, ds.length ≠ ps.length → m ds γ = .no
def PEz (C : Gho) (X : Cx) (H0 : Hp) (W : WX) : List E → List Expr → Prop
  | [], [] => True
  | e :: es, x :: xs => PE X x (tE C X.mg H0 W e) ∧ PEz C X H0 W es xs
  | _, _ => False
/-- a def that is called with any number of arguments -/
def spH (G : Gho → Prop) (K : PySem.W.Frag) (mg : Str → Option Value) (m : Sem) : Sp := fun vs H Q E => ∃ (C : Gho) (B : Hp) (γ : D) (ds : List D), C.K = K ∧ G C ∧ (∀ n, C.hv n ≠ .non) ∧ Same B H ∧ C.rep γ H ∧ (∀ a, C.U a → B a = none) ∧ (∀ L c a od, ¬ C.er L c a od) ∧ Reps C.K C.hv B vs ds ∧
  match m ds γ with
  | .ok d g => Done C B H g .clean d Q
  | .exc c fs g => ∀ cls od B' H', Ext C.U B H B' H' → C.rep g H' → ExcIs C mg B' H' c fs cls od → E cls od H'
  | .no => False
def KnowsH (G : Gho → Prop) (P : Program) (w : World) (K : PySem.W.Frag) (mg : Str → Option Value) (base : Heap) (k : Nat) (f : Str) (m : Sem) : Prop :=
  ∃ (j : Nat) (a : Addr), j ≤ k ∧ FnH P w K mg base j a (spH G K mg m) ∧ mg f = some (.ref a) ∧ PySem.W.keepIn K (.ref a) = true
/-- a pattern that is known -/
def KnowsX (G : Gho → Prop) (P : Program) (w : World) (K : PySem.W.Frag) (mg : Str → Option Value) (base : Heap) (k : Nat) (f : Str) (m : Sem) : Prop :=
  ∀ {X : Cx} {N : List Str} {sc : Scope} {C : Gho} {W : WX} {H0 : Hp} {x : Expr} {xs : List Expr} {es : List E}, XOk G X N sc k C → calmB sc = true → Takes X W → X.prog = P → X.w = w → X.K = K → X.mg = mg → X.base = base → mX sc f x = some xs →
    smOk f es = true → mEs N sc es xs = true → noB (kds es) = true → PEz C X H0 W es xs → PE X x (tE C X.mg H0 W (.call f m es)) ∧ PT X x (tT C X.mg H0 W (.call f m es))
/-- which errors are known -/
def tagS (L : List Str) : Sem := fun _ g => .ok (.tup (L.map .str)) g
def tagR (c : Str) : Sem := fun _ g => .ok (.str c) g
def TryFacts (K : PySem.W.Frag) (mg : Str → Option Value) (L : List Str) : Prop := (∃ P, mg "PassError" = some (.ref P) ∧ ∀ c ∈ L, ∃ D, TryOk K mg L c D ∧ PySem.W.exmOne K (.ref D) (.ref P) = some true)
/-- an error can be made and raised -/
def MkFacts (K : PySem.W.Frag) (mg : Str → Option Value) (c : Str) : Prop := match fldC c with
  | none => ∃ D bmB, mg c = some (.ref D) ∧ PySem.W.excIn K D bmB "ValueError.__new__" = true ∧ bmB = [.type "ValueError", .type "Exception", .type "BaseException", .type "object"] ∧ PySem.W.keepIn K (.ref D) = true ∧ PySem.W.subIn K (.ref D) (.type "BaseException") = some true ∧ PySem.W.typeIn K (.ref D) = some (.type "type")
  | some fl => ∃ C fI qn, PySem.ErrX.ErrTxt c qn fl K mg C fI
def isPat (f : Str) : Bool := isDot f && !decide (f = ".?") && !decide (f = ".!")
def Knows (G : Gho → Prop) (P : Program) (w : World) (K : PySem.W.Frag) (mg : Str → Option Value) (base : Heap) (k : Nat) (f : Str) (m : Sem) : Prop :=
  (isDot f = false ∧ KnowsC G P w K mg base k f m) ∨ (isPat f = true ∧ KnowsX G P w K mg base k f m) ∨ (isDot f = false ∧ KnowsH G P w K mg base k f m) ∨
  (f = ".?" ∧ ∃ L, m = tagS L ∧ TryFacts K mg L) ∨ (f = ".!" ∧ ∃ c, m = tagR c ∧ MkFacts K mg c)
end PyI

set_option maxRecDepth 100000
/-! PyI, part F: the program's expressions do what the small language says. -/
namespace PyI
open PySem PySem.Spec PyProof.Rows L2
variable {G : Gho → Prop}

section
variable {C : Gho} {mg : Str → Option Value} {W : WX} {B H B1 H1 B2 H2 H0 : Hp} {σ : L2.St} {γ g : D}
theorem Fin.bind {α β : Type} {r : R α} {f : α → D → R β} {F : β → D → Prop} (h : Fin C mg W B σ H (r.bind f) F) : Fin C mg W B σ H r fun a g => Fin C mg W B σ H (f a g) F := by
  cases r <;> exact h
theorem Fin.imp {α : Type} {r : R α} {F F' : α → D → Prop} (h : Fin C mg W B σ H r F) (i : ∀ a g, F a g → F' a g) : Fin C mg W B σ H r F' := by
  cases r with
  | ok a g => exact i a g h
  | exc c fs g => exact h
  | no => exact h
theorem Fin.ext {α : Type} {r : R α} {F : α → D → Prop} (h : Fin C mg W B σ H r F) (x : Ext C.U B H B1 H1) : Fin C mg W B1 σ H1 r F := by
  cases r with
  | ok a g => exact h
  | exc c fs g => exact fun cls od B' H' y g' e => h cls od B' H' (x.trans y) g' e
  | no => exact h
theorem Fin.opt {α : Type} {o : Option α} {F : α → D → Prop} (h : Fin C mg W B σ H (opt g o) F) : ∃ a, o = some a ∧ F a g := by
  cases o with
  | none => exact h.elim
  | some a => exact ⟨a, rfl, h⟩
theorem RepF.earlier {v : V} {d : D} (x : Ext C.U B H B1 H1) (r : RepF C H1 B2 H2 v d) : RepF C H B2 H2 v d := by
  have none_of : ∀ l, H1 l = none → H l = none := by
    intro l h
    cases e : H l with
    | none => rfl
    | some o =>
      by_cases hu : C.U l
      · exact absurd h (x.uk l hu (by rw [e]; exact fun z => nomatch z))
      · rw [x.keep l o e hu] at h; cases h
  cases d with
  | lst xs => obtain ⟨l, vs, h1, h2, h3⟩ := r; exact ⟨l, vs, h1, none_of l h2, h3⟩
  | dic xs => obtain ⟨l, vs, h1, h2, h3⟩ := r; exact ⟨l, vs, h1, none_of l h2, h3⟩
  | _ => exact r
theorem Done.ext {k : Kd} {d : D} {Q : VK} (h : Done C B H γ k d Q) (x : Ext C.U B H B1 H1) : Done C B1 H1 γ k d Q := fun v B' H' y g r => by
  refine h v B' H' (x.trans y) g ?_
  cases k with
  | fresh => exact RepF.earlier x r
  | clean => exact r
  | borrow => exact r
theorem RV.b {k : Kd} {v : V} {d : D} (gh : C.rep γ H) (r : RV C k H B1 H1 v d) : RepB C B1 H1 v d := by
  cases k with
  | fresh =>
    cases d with
    | lst xs =>
      obtain ⟨l, vs, h1, h2, h3, h4, h5⟩ := r
      exact .inr (.inl ⟨l, vs, xs, h1, rfl, h4, fun u => C.has γ H l gh u h2, h5⟩)
    | dic xs =>
      obtain ⟨l, vs, h1, h2, h3, h4, h5⟩ := r
      exact .inr (.inr ⟨l, vs, xs, h1, rfl, h4, fun u => C.has γ H l gh u h2, h5⟩)
    | _ => exact .inl r
  | clean => exact .inl r
  | borrow => exact r
theorem RepBs.mono {vs : List V} {ds : List D} (x : Ext C.U B H B1 H1) (h : RepBs C B H vs ds) : RepBs C B1 H1 vs ds := by
  induction h with
  | nil => exact .nil
  | cons a _ ih => exact .cons (a.mono x) ih
end

/-! ### names -/
section
variable {X : Cx} {N : List Str} {sc : Scope} {k : Nat} {C : Gho}
theorem XOk.vis (ok : XOk G X N sc k C) {x : Str} (h : visB sc x = true) : Vis X.env.scope x := by
  unfold visB at h
  split at h
  · rename_i e
    obtain ⟨q', h1, h2⟩ := ok.sc _ _ e
    rcases h2 with rfl | ⟨h2, _⟩
    · exact .inl h1
    · cases h2
  · rename_i e
    obtain ⟨q', h1, h2⟩ := ok.sc _ _ e
    rcases h2 with rfl | ⟨h2, _⟩
    · exact .inr (.inl h1)
    · cases h2
  · rename_i e
    obtain ⟨q', h1, h2⟩ := ok.sc _ _ e
    rcases h2 with rfl | ⟨_, rfl⟩
    · exact .inr (.inr h1)
    · exact .inr (.inl h1)
  · cases h
theorem XOk.loc (ok : XOk G X N sc k C) {x : Str} (h : locB sc x = true) : Loc X.env.scope x := by
  unfold locB at h
  split at h
  · rename_i e
    obtain ⟨q', h1, h2⟩ := ok.sc _ _ e
    rcases h2 with rfl | ⟨h2, _⟩
    · exact .inl h1
    · cases h2
  · rename_i e
    obtain ⟨q', h1, h2⟩ := ok.sc _ _ e
    rcases h2 with rfl | ⟨h2, _⟩
    · exact .inr h1
    · cases h2
  · cases h
theorem XOk.gl (ok : XOk G X N sc k C) {x : Str} (h : glB sc x = true) : Gl X x ∧ (x == ("__debug__" : Str)) = false ∧ x ≠ "__name__" := by
  simp only [glB, Bool.and_eq_true, decide_eq_true_eq, Bool.not_eq_true'] at h
  obtain ⟨q', h1, h2⟩ := ok.sc _ _ h.1.1
  rcases h2 with rfl | ⟨h2, _⟩
  · exact ⟨h1, h.1.2, fun e => by rw [e] at h; exact absurd h.2 (by decide)⟩
  · cases h2
theorem XOk.name (ok : XOk G X N sc k C) {i : Nat} {x : Str} {pos : Pos} (h : nameB N sc i x = true) : PE X (.Name x pos) (tVar i) := by
  simp only [nameB, Bool.and_eq_true, decide_eq_true_eq, Bool.not_eq_true'] at h
  exact pe_var (by rw [ok.hN]; exact h.1.1.1) (ok.vis h.1.1.2) h.1.2 h.2
theorem XOk.units (ok : XOk G X N sc k C) : X.A.units + 65 < cLine := by have := ok.unt; omega
end

/-! ### arguments in a row -/
theorem starEach_cons {e : Expr} {es : List Expr} {env : PySem.Env} (h : notStar e = true) : starEach (e :: es) env = (false, eval e env) :: starEach es env := by
  cases e <;> first | rfl | cases h
theorem mEs_plain {N : List Str} {sc : Scope} : ∀ {es : List E} {xs : List Expr}, mEs N sc es xs = true → ∀ (pos : Pos) (env : PySem.Env), (backTo pos (starEach xs env)).any (·.1) = false
  | [], xs, h, pos, env => by
    cases xs with
    | nil => rfl
    | cons y ys => simp [mEs] at h
  | e :: es, xs, h, pos, env => by
    cases xs with
    | nil => simp [mEs] at h
    | cons y ys =>
      simp only [mEs, Bool.and_eq_true] at h
      rw [starEach_cons h.1.2]
      exact mEs_plain h.2 pos env

section
variable {X : Cx} {N : List Str} {sc : Scope} {k : Nat} {C : Gho} {W : WX} {H0 : Hp} {pos : Pos}
abbrev tE' (X : Cx) (C : Gho) (H0 : Hp) (W : WX) (e : E) : TE := tE C X.mg H0 W e
theorem opt_some {α : Type} {o : Option α} {F : α → D → Prop} {B H : Hp} {σ : L2.St} {g : D} (h : Fin C X.mg W B σ H (opt g o) F) : ∃ a, o = some a ∧ F a g := h.opt
/-! ### one lemma a construct -/
theorem c_const {q : Cn} {c : Const} {j : Nat} (h : constB q c = true) : PE X (.Constant c j pos) (tE C X.mg H0 W (.c q)) := by
  refine ⟨fun pins s σ H Q I hq => ?_⟩
  obtain ⟨B, ρ, γ, S, hq⟩ := hq
  have hq : Done C B H γ .fresh q.d Q := hq
  cases q <;> cases c <;> first | (cases h; done) | skip
  · exact pe_non.run pins s σ H Q I (hq.flat S.sub S.gh rfl .non)
  · obtain rfl := eq_of_beq h
    exact pe_bl.run pins s σ H Q I (hq.flat S.sub S.gh rfl (.bl _))
  · obtain rfl := of_decide_eq_true h
    exact pe_int.run pins s σ H Q I (hq.flat S.sub S.gh rfl (.int _))
  · obtain rfl := of_decide_eq_true h
    exact pe_str.run pins s σ H Q I (hq.flat S.sub S.gh rfl (.str _))
theorem c_v (ok : XOk G X N sc k C) {i : Nat} {y : Str} (h : nameB N sc i y = true) : PE X (.Name y pos) (tE C X.mg H0 W (.v i)) := by
  refine ⟨fun pins s σ H Q I hq => ?_⟩
  obtain ⟨B, ρ, γ, S, hq⟩ := hq
  obtain ⟨d, hd, hq⟩ := hq.opt
  unfold getV at hd
  split at hd
  · rename_i e
    cases hd
    obtain ⟨v, h1, h2⟩ := S.val i _ e
    exact (ok.name h).run pins s σ H Q I ⟨v, h1, hq v B H (Ext.refl S.sub) S.gh h2⟩
  · cases hd
theorem c_vb (ok : XOk G X N sc k C) {i : Nat} {y : Str} (h : nameB N sc i y = true) : PE X (.Name y pos) (tE C X.mg H0 W (.vb i)) := by
  refine ⟨fun pins s σ H Q I hq => ?_⟩
  obtain ⟨B, ρ, γ, S, hq⟩ := hq
  obtain ⟨d, hd, hq⟩ := hq.opt
  unfold getB at hd
  split at hd
  · rename_i e
    cases hd
    obtain ⟨v, h1, h2⟩ := S.val i _ e
    exact (ok.name h).run pins s σ H Q I ⟨v, h1, hq v B H (Ext.refl S.sub) S.gh (.inl h2)⟩
  · rename_i e
    cases hd
    obtain ⟨l, vs, h1, h2, h3, h4, h5, h6⟩ := S.ol i _ e
    exact (ok.name h).run pins s σ H Q I ⟨_, h1, hq _ B H (Ext.refl S.sub) S.gh (.inr (.inl ⟨l, vs, _, rfl, rfl, h2, h4, h6⟩))⟩
  · rename_i e
    cases hd
    obtain ⟨l, vs, h1, h2, h3, h4, h5, h6⟩ := S.od i _ e
    exact (ok.name h).run pins s σ H Q I ⟨_, h1, hq _ B H (Ext.refl S.sub) S.gh (.inr (.inr ⟨l, vs, _, rfl, rfl, h2, h4, h6⟩))⟩
  · cases hd
theorem c_g (ok : XOk G X N sc k C) {y : Str} {d : D} (h : glB sc y = true) (q : Names X.K X.mg C y d) : PE X (.Name y pos) (tE C X.mg H0 W (.g y d)) := by
  refine ⟨fun pins s σ H Q I hq => ?_⟩
  obtain ⟨B, ρ, γ, S, hq⟩ := hq
  have hq : Done C B H γ .clean d Q := hq
  obtain ⟨u, v, h1, h2, h3⟩ := q
  obtain ⟨g1, g2, _⟩ := ok.gl h
  rw [← ok.hK] at h3
  exact (pe_glob g1 h1 h2 g2).run pins s σ H Q I (hq v B H (Ext.refl S.sub) S.gh (Rep.mono (fun a o e => nomatch (show (none : Option HO) = some o from e)) _ _ h3))
theorem c_neg {a : E} {x : Expr} (ha : PE X x (tE C X.mg H0 W a)) : PE X (.UnaryOp .USub x pos) (tE C X.mg H0 W (.neg a)) := by
  refine ⟨fun pins s σ H Q I hq => ?_⟩
  obtain ⟨B, ρ, γ, S, hq⟩ := hq
  rw [ev] at hq
  refine (pe_un un_neg ha).run pins s σ H Q I ⟨B, ρ, γ, S, hq.bind.imp fun d g h1 v B1 H1 x1 g1 r1 => ?_⟩
  obtain ⟨z, hz, h2⟩ := h1.opt
  obtain ⟨i, hi, rfl⟩ := Option.map_eq_some_iff.mp hz
  cases d <;> first | (cases hi; done) | skip
  cases hi
  cases (r1.b S.gh).int
  exact ⟨_, rfl, (h2.ext x1).flat x1.s g1 rfl (.int _)⟩
theorem c_not {a : E} {x : Expr} (ha : PE X x (tE C X.mg H0 W a)) : PE X (.UnaryOp .Not x pos) (tE C X.mg H0 W (.not a)) := by
  refine ⟨fun pins s σ H Q I hq => ?_⟩
  obtain ⟨B, ρ, γ, S, hq⟩ := hq
  rw [ev] at hq
  refine (pe_not ha).run pins s σ H Q I ⟨B, ρ, γ, S, hq.bind.imp fun d g h1 v B1 H1 x1 g1 r1 => ?_⟩
  obtain ⟨z, hz, h2⟩ := h1.opt
  obtain ⟨i, hi, rfl⟩ := Option.map_eq_some_iff.mp hz
  cases d <;> first | (cases hi; done) | skip
  cases hi
  cases (r1.b S.gh).bl
  exact ⟨_, rfl, (h2.ext x1).flat x1.s g1 rfl (.bl _)⟩
theorem c_bin (ok : XOk G X N sc k C) {op : Bo} {a b : E} {x y : Expr} (ha : PE X x (tE C X.mg H0 W a)) (hb : PE X y (tE C X.mg H0 W b)) : PE X (.BinOp x op.op y pos) (tE C X.mg H0 W (.bin op a b)) := by
  refine ⟨fun pins s σ H Q I hq => ?_⟩
  obtain ⟨B, ρ, γ, S, hq⟩ := hq
  rw [ev] at hq
  refine (pe_op (bin_ok ok.hK op) ha hb).run pins s σ H Q I ⟨B, ρ, γ, S, hq.bind.imp fun d g h1 v B1 H1 x1 g1 r1 => ?_⟩
  have S1 := S.ext x1 g1
  refine ⟨B1, ρ, g, S1, (h1.ext x1).bind.imp fun e g2 h2 w B2 H2 x2 g2' r2 => ?_⟩
  obtain ⟨z, hz, h3⟩ := h2.opt
  exact ⟨B2, g2, d, e, z, x2.s, g2', (r1.b S.gh).mono x2, r2.b S1.gh, hz, h3.ext (x1.trans x2)⟩
theorem c_cmp (ok : XOk G X N sc k C) {op : Co} {a b : E} {x y : Expr} (hm : behindInMarks op.op y = false) (ha : PE X x (tE C X.mg H0 W a)) (hb : PE X y (tE C X.mg H0 W b)) : PE X (.Compare x [op.op] [y] pos) (tE C X.mg H0 W (.cmp op a b)) := by
  refine ⟨fun pins s σ H Q I hq => ?_⟩
  obtain ⟨B, ρ, γ, S, hq⟩ := hq
  rw [ev] at hq
  refine (pe_cmpR (cmp_ok ok.hK ok.hn ok.units op) ha hb hm).run pins s σ H Q I ⟨B, ρ, γ, S, hq.bind.imp fun d g h1 v B1 H1 x1 g1 r1 => ?_⟩
  have S1 := S.ext x1 g1
  refine ⟨B1, ρ, g, S1, (h1.ext x1).bind.imp fun e g2 h2 w B2 H2 x2 g2' r2 => ?_⟩
  obtain ⟨z, hz, h3⟩ := h2.opt
  obtain ⟨r, hr, rfl⟩ := Option.map_eq_some_iff.mp hz
  exact ⟨B2, g2, d, e, r, x2.s, g2', (r1.b S.gh).mono x2, r2.b S1.gh, hr, (h3.ext (x1.trans x2)).flat x2.s g2' rfl (.bl _)⟩
theorem t_cmp (ok : XOk G X N sc k C) {op : Co} {a b : E} {x y : Expr} (hm : behindInMarks op.op y = false) (ha : PE X x (tE C X.mg H0 W a)) (hb : PE X y (tE C X.mg H0 W b)) : PT X (.Compare x [op.op] [y] pos) (tT C X.mg H0 W (.cmp op a b)) := by
  refine ⟨fun pins s σ H Q I hq => ?_⟩
  obtain ⟨B, ρ, γ, S, hq⟩ := hq
  rw [ev] at hq
  refine (pt_cmpR (cmp_ok ok.hK ok.hn ok.units op) ha hb hm).run pins s σ H Q I ⟨B, ρ, γ, S, hq.bind.imp fun d g h1 v B1 H1 x1 g1 r1 => ?_⟩
  have S1 := S.ext x1 g1
  refine ⟨B1, ρ, g, S1, (h1.ext x1).bind.imp fun e g2 h2 w B2 H2 x2 g2' r2 => ?_⟩
  obtain ⟨z, hz, h3⟩ := h2.opt
  obtain ⟨r, hr, rfl⟩ := Option.map_eq_some_iff.mp hz
  obtain ⟨b, hb, h4⟩ := h3
  cases hb
  exact ⟨B2, g2, d, e, _, x2.s, g2', (r1.b S.gh).mono x2, r2.b S1.gh, hr, _, rfl, h4 _ _ (x1.trans x2) g2'⟩
theorem c_chain (ok : XOk G X N sc k C) {op op' : Co} {a b c : E} {x y z : Expr} (hm : lastMarks [op.op, op'.op] [y, z] = false) (ha : PE X x (tE C X.mg H0 W a)) (hb : PE X y (tE C X.mg H0 W b)) (hc : PE X z (tE C X.mg H0 W c)) :
    PE X (.Compare x [op.op, op'.op] [y, z] pos) (tE C X.mg H0 W (.chain op op' a b c)) := by
  refine ⟨fun pins s σ H Q I hq => ?_⟩
  obtain ⟨B, ρ, γ, S, hq⟩ := hq
  rw [ev] at hq
  refine (pe_chain (cmp_ok ok.hK ok.hn ok.units op) (cmp_ok ok.hK ok.hn ok.units op') ha hb hc hm).run pins s σ H Q I ⟨B, ρ, γ, S, hq.bind.imp fun d g h1 v B1 H1 x1 g1 r1 => ?_⟩
  have S1 := S.ext x1 g1
  refine ⟨B1, ρ, g, S1, (h1.ext x1).bind.imp fun e g2 h2 w B2 H2 x2 g2' r2 => ?_⟩
  have S2 := S1.ext x2 g2'
  cases hr : cmpF op d e with
  | none => simp only [hr] at h2; exact h2.elim
  | some r =>
    simp only [hr] at h2
    refine ⟨B2, g2, d, e, r, x2.s, g2', (r1.b S.gh).mono x2, r2.b S1.gh, hr, r, rfl, ?_⟩
    cases r with
    | false =>
      rw [if_neg Bool.false_ne_true]
      have h2 : Done C B H g2 .fresh (.bl false) Q := h2
      exact (h2.ext (x1.trans x2)).flat x2.s g2' rfl (.bl _)
    | true =>
      rw [if_pos rfl]
      refine ⟨B2, ρ, g2, S2, (h2.ext x2).bind.imp fun f g3 h3 u B3 H3 x3 g3' r3 => ?_⟩
      obtain ⟨q, hz, h4⟩ := h3.opt
      obtain ⟨r, hr, rfl⟩ := Option.map_eq_some_iff.mp hz
      exact ⟨B3, g3, e, f, r, x3.s, g3', (r2.b S1.gh).mono x3, r3.b S2.gh, hr, (h4.ext ((x1.trans x2).trans x3)).flat x3.s g3' rfl (.bl _)⟩
theorem t_chain (ok : XOk G X N sc k C) {op op' : Co} {a b c : E} {x y z : Expr} (hm : lastMarks [op.op, op'.op] [y, z] = false) (ha : PE X x (tE C X.mg H0 W a)) (hb : PE X y (tE C X.mg H0 W b)) (hc : PE X z (tE C X.mg H0 W c)) :
    PT X (.Compare x [op.op, op'.op] [y, z] pos) (tT C X.mg H0 W (.chain op op' a b c)) := by
  refine ⟨fun pins s σ H Q I hq => ?_⟩
  obtain ⟨B, ρ, γ, S, hq⟩ := hq
  rw [ev] at hq
  refine (pt_chain (cmp_ok ok.hK ok.hn ok.units op) (cmp_ok ok.hK ok.hn ok.units op') ha hb hc hm).run pins s σ H Q I ⟨B, ρ, γ, S, hq.bind.imp fun d g h1 v B1 H1 x1 g1 r1 => ?_⟩
  have S1 := S.ext x1 g1
  refine ⟨B1, ρ, g, S1, (h1.ext x1).bind.imp fun e g2 h2 w B2 H2 x2 g2' r2 => ?_⟩
  have S2 := S1.ext x2 g2'
  cases hr : cmpF op d e with
  | none => simp only [hr] at h2; exact h2.elim
  | some r =>
    simp only [hr] at h2
    refine ⟨B2, g2, d, e, r, x2.s, g2', (r1.b S.gh).mono x2, r2.b S1.gh, hr, r, rfl, ?_⟩
    cases r with
    | false =>
      rw [if_neg Bool.false_ne_true]
      obtain ⟨b, hb, h4⟩ := h2
      cases hb
      exact ⟨_, rfl, h4 _ _ (x1.trans x2) g2'⟩
    | true =>
      rw [if_pos rfl]
      refine ⟨B2, ρ, g2, S2, (h2.ext x2).bind.imp fun f g3 h3 u B3 H3 x3 g3' r3 => ?_⟩
      obtain ⟨q, hz, h4⟩ := h3.opt
      obtain ⟨r, hr, rfl⟩ := Option.map_eq_some_iff.mp hz
      obtain ⟨b, hb, h4⟩ := h4
      cases hb
      exact ⟨B3, g3, e, f, _, x3.s, g3', (r2.b S1.gh).mono x3, r3.b S2.gh, hr, _, rfl, h4 _ _ ((x1.trans x2).trans x3) g3'⟩
theorem worse_le {a b : Kd} : a.le (a.worse b) = true ∧ b.le (a.worse b) = true := by
  cases a <;> cases b <;> exact ⟨rfl, rfl⟩
theorem c_ife {t a b : E} {x y z : Expr} (ht : PT X x (tT C X.mg H0 W t)) (ha : PE X y (tE C X.mg H0 W a)) (hb : PE X z (tE C X.mg H0 W b)) : PE X (.IfExp x y z pos) (tE C X.mg H0 W (.ife t a b)) := by
  refine ⟨fun pins s σ H Q I hq => ?_⟩
  obtain ⟨B, ρ, γ, S, hq⟩ := hq
  rw [ev] at hq
  refine (pe_ifExp ht ha hb).run pins s σ H Q I ⟨B, ρ, γ, S, hq.bind.imp fun d g h1 => ?_⟩
  cases d <;> first | exact h1.elim | skip
  rename_i c
  refine ⟨c, rfl, fun B1 H1 x1 g1 => ?_⟩
  cases c with
  | true =>
    rw [if_pos rfl]
    exact ⟨B1, ρ, g, S.ext x1 g1, (h1.ext x1).imp fun e g2 h2 => Done.le worse_le.1 (h2.ext x1)⟩
  | false =>
    rw [if_neg Bool.false_ne_true]
    exact ⟨B1, ρ, g, S.ext x1 g1, (h1.ext x1).imp fun e g2 h2 => Done.le worse_le.2 (h2.ext x1)⟩
theorem t_ife {t a b : E} {x y z : Expr} (ht : PT X x (tT C X.mg H0 W t)) (ha : PT X y (tT C X.mg H0 W a)) (hb : PT X z (tT C X.mg H0 W b)) : PT X (.IfExp x y z pos) (tT C X.mg H0 W (.ife t a b)) := by
  refine ⟨fun pins s σ H Q I hq => ?_⟩
  obtain ⟨B, ρ, γ, S, hq⟩ := hq
  rw [ev] at hq
  have key : tT C X.mg H0 W t σ H (fun c H1 => if c = true then tT C X.mg H0 W a σ H1 Q else tT C X.mg H0 W b σ H1 Q) := by
    refine ⟨B, ρ, γ, S, hq.bind.imp fun d g h1 => ?_⟩
    cases d <;> first | exact h1.elim | skip
    rename_i c
    refine ⟨c, rfl, fun B1 H1 x1 g1 => ?_⟩
    cases c with
    | true =>
      rw [if_pos rfl]
      exact ⟨B1, ρ, g, S.ext x1 g1, (h1.ext x1).imp fun e g2 ⟨r, h2, h3⟩ => ⟨r, h2, fun B2 H2 x2 => h3 B2 H2 (x1.trans x2)⟩⟩
    | false =>
      rw [if_neg Bool.false_ne_true]
      exact ⟨B1, ρ, g, S.ext x1 g1, (h1.ext x1).imp fun e g2 ⟨r, h2, h3⟩ => ⟨r, h2, fun B2 H2 x2 => h3 B2 H2 (x1.trans x2)⟩⟩
  refine isTrue_IfExp (thn (ht.run pins s σ H _ I key) ?_)
  intro c s2 hc
  obtain ⟨H1, I1, q1⟩ := hc
  cases c with
  | true => exact ha.run pins s2 σ H1 Q I1 q1
  | false => exact hb.run pins s2 σ H1 Q I1 q1
theorem t_not {a : E} {x : Expr} (ha : PT X x (tT C X.mg H0 W a)) : PT X (.UnaryOp .Not x pos) (tT C X.mg H0 W (.not a)) := by
  refine ⟨fun pins s σ H Q I hq => ?_⟩
  obtain ⟨B, ρ, γ, S, hq⟩ := hq
  rw [ev] at hq
  refine (pt_not ha).run pins s σ H Q I ⟨B, ρ, γ, S, hq.bind.imp fun d g h1 => ?_⟩
  obtain ⟨z, hz, h2⟩ := h1.opt
  obtain ⟨i, hi, rfl⟩ := Option.map_eq_some_iff.mp hz
  cases d <;> first | (cases hi; done) | skip
  cases hi
  obtain ⟨b, hb, h3⟩ := h2
  cases hb
  exact ⟨_, rfl, h3⟩
/-- a value that is a bool, as a test -/
theorem t_val {e : E} {x : Expr} (hx : plainTest x = true) (he : PE X x (tE C X.mg H0 W e)) : PT X x (tT C X.mg H0 W e) := by
  refine ⟨fun pins s σ H Q I hq => ?_⟩
  obtain ⟨B, ρ, γ, S, hq⟩ := hq
  have pl : ∀ whole, isTrue x X.env whole = (do let v ← whole; standAt x.pos; holding [v] (truthy v)) := by
    intro w
    cases x <;> first | rfl | (cases hx; done) | skip
    rename_i op a p
    cases op <;> first | rfl | (cases hx; done)
  refine (pt_val he pl).run pins s σ H Q I ⟨B, ρ, γ, S, hq.imp fun d g h1 => ?_⟩
  obtain ⟨b, rfl, h2⟩ := h1
  intro v B1 H1 x1 g1 r1
  exact ⟨b, (r1.b S.gh).bl, h2 B1 H1 x1 g1⟩

/-! ### arguments -/
theorem noB_cons {e : E} {es : List E} (h : noB (kds (e :: es)) = true) : (kd e).le .clean = true ∧ noB (kds es) = true := by
  rw [kds] at h
  cases h1 : kd e <;> cases h2 : kds es <;> rw [h1, h2] at h <;> first | (cases h; done) | exact ⟨rfl, rfl⟩
theorem a_c_nil : PA X [] (tAc C X.mg H0 W []) := by
  refine ⟨fun pos pins s σ H Q I hq => ?_⟩
  obtain ⟨B, ρ, γ, S, hq⟩ := hq
  rw [evs] at hq
  have hq : DoneC C B H γ [] Q := hq
  exact pa_nil.run pos pins s σ H Q I (hq [] B H (Ext.refl S.sub) S.gh .nil)
theorem a_b_nil : PA X [] (tAb C X.mg H0 W []) := by
  refine ⟨fun pos pins s σ H Q I hq => ?_⟩
  obtain ⟨B, ρ, γ, S, hq⟩ := hq
  rw [evs] at hq
  have hq : DoneB C B H γ [] Q := hq
  exact pa_nil.run pos pins s σ H Q I (hq [] B H (Ext.refl S.sub) S.gh .nil)
theorem a_c_cons {e : E} {es : List E} {x : Expr} {xs : List Expr} (hs : notStar x = true) (hk : (kd e).le .clean = true) (he : PE X x (tE C X.mg H0 W e)) (hes : PA X xs (tAc C X.mg H0 W es)) : PA X (x :: xs) (tAc C X.mg H0 W (e :: es)) := by
  refine ⟨fun pos pins s σ H Q I hq => ?_⟩
  obtain ⟨B, ρ, γ, S, hq⟩ := hq
  rw [evs] at hq
  refine (pa_cons he hes (starEach_cons hs)).run pos pins s σ H Q I ⟨B, ρ, γ, S, hq.bind.imp fun d g h1 => Done.le (k := .clean) hk fun v B1 H1 x1 g1 r1 => ?_⟩
  refine ⟨B1, ρ, g, S.ext x1 g1, (h1.ext x1).bind.imp fun ds g2 h2 vs B2 H2 x2 g2' r2 => ?_⟩
  exact h2 (v :: vs) B2 H2 (x1.trans x2) g2' (.cons (Rep.mono x2.b _ _ r1) r2)
theorem a_b_cons {e : E} {es : List E} {x : Expr} {xs : List Expr} (hs : notStar x = true) (he : PE X x (tE C X.mg H0 W e)) (hes : PA X xs (tAb C X.mg H0 W es)) : PA X (x :: xs) (tAb C X.mg H0 W (e :: es)) := by
  refine ⟨fun pos pins s σ H Q I hq => ?_⟩
  obtain ⟨B, ρ, γ, S, hq⟩ := hq
  rw [evs] at hq
  refine (pa_cons he hes (starEach_cons hs)).run pos pins s σ H Q I ⟨B, ρ, γ, S, hq.bind.imp fun d g h1 v B1 H1 x1 g1 r1 => ?_⟩
  refine ⟨B1, ρ, g, S.ext x1 g1, (h1.ext x1).bind.imp fun ds g2 h2 vs B2 H2 x2 g2' r2 => ?_⟩
  exact h2 (v :: vs) B2 H2 (x1.trans x2) g2' (.cons ((r1.b S.gh).mono x2) r2)
theorem size60 {n : Nat} (h : n ≤ 60) : n ≤ sizeLine := by rw [sizeLine_eq]; omega
theorem evs_len : ∀ {es : List E} {ρ : Rho} {g g' : D} {ds : List D}, evs es ρ g = .ok ds g' → ds.length = es.length
  | [], ρ, g, g', ds, h => by
    rw [evs] at h; cases h; rfl
  | e :: es, ρ, g, g', ds, h => by
    rw [evs] at h
    cases h1 : ev e ρ g with
    | ok x g1 =>
      rw [h1] at h
      cases h2 : evs es ρ g1 with
      | ok xs g2 =>
        simp only [R.bind, h2] at h
        cases h
        rw [List.length_cons, List.length_cons, evs_len h2]
      | exc c fs g2 => simp only [R.bind, h2] at h; cases h
      | no => simp only [R.bind, h2] at h; cases h
    | exc c fs g2 => rw [h1] at h; cases h
    | no => rw [h1] at h; cases h
theorem Fin.with {α : Type} {B H : Hp} {σ : L2.St} {r : R α} {F : α → D → Prop} (h : Fin C X.mg W B σ H r F) : Fin C X.mg W B σ H r fun a g => r = .ok a g ∧ F a g := by
  cases r with
  | ok a g => exact ⟨rfl, h⟩
  | exc c fs g => exact h
  | no => exact h
theorem c_tup {es : List E} {xs : List Expr} {j : Nat} (hl : es.length ≤ 60) (h : PA X xs (tAc C X.mg H0 W es)) : PE X (.Tuple xs j pos) (tE C X.mg H0 W (.tup es)) := by
  refine ⟨fun pins s σ H Q I hq => ?_⟩
  obtain ⟨B, ρ, γ, S, hq⟩ := hq
  rw [ev] at hq
  refine (peF_tup h).run pins s σ H Q I ⟨B, ρ, γ, S, hq.bind.with.imp fun ds g h1 vs B1 H1 x1 g1 r1 => ?_⟩
  refine ⟨by rw [r1.length, evs_len h1.1]; exact size60 hl, ?_⟩
  have h2 : Done C B H g .fresh (.tup ds) Q := h1.2
  exact (h2.ext x1).newT x1.s g1 r1
theorem c_lst {es : List E} {xs : List Expr} (hl : es.length ≤ 60) (h : PA X xs (tAc C X.mg H0 W es)) : PE X (.List xs pos) (tE C X.mg H0 W (.lst es)) := by
  refine ⟨fun pins s σ H Q I hq => ?_⟩
  obtain ⟨B, ρ, γ, S, hq⟩ := hq
  rw [ev] at hq
  refine (pe_lst h).run pins s σ H Q I ⟨B, ρ, γ, S, hq.bind.with.imp fun ds g h1 vs B1 H1 x1 g1 r1 => ?_⟩
  refine ⟨by rw [r1.length, evs_len h1.1]; exact size60 hl, ?_⟩
  have h2 : Done C B H g .fresh (.lst ds) Q := h1.2
  exact (h2.ext x1).newL x1.s g1 r1
theorem c_idx (ok : XOk G X N sc k C) {a b : E} {x y : Expr} (hp : plainIx y = true) (ha : PE X x (tE C X.mg H0 W a)) (hb : PE X y (tE C X.mg H0 W b)) : PE X (.Subscript x y pos) (tE C X.mg H0 W (.idx a b)) := by
  refine ⟨fun pins s σ H Q I hq => ?_⟩
  obtain ⟨B, ρ, γ, S, hq⟩ := hq
  rw [ev] at hq
  have pl : PlainIx y := by
    intro o i
    cases y <;> first | rfl | (cases hp; done)
  refine (pe_ix (idx_ok ok.hK ok.units) ha hb pl).run pins s σ H Q I ⟨B, ρ, γ, S, hq.bind.imp fun d g h1 v B1 H1 x1 g1 r1 => ?_⟩
  have S1 := S.ext x1 g1
  refine ⟨B1, ρ, g, S1, (h1.ext x1).bind.imp fun e g2 h2 w B2 H2 x2 g2' r2 => ?_⟩
  obtain ⟨z, hz, h3⟩ := h2.opt
  exact ⟨B2, g2, d, e, z, x2.s, g2', (r1.b S.gh).mono x2, r2.b S1.gh, hz, h3.ext (x1.trans x2)⟩
def tO (C : Gho) (mg : Str → Option Value) (H0 : Hp) (W : WX) (o : Option E) : TO := fun σ H Q => ∃ B ρ γ, St C H0 B σ H ρ γ ∧ Fin C mg W B σ H (evo o ρ γ) fun p g => ∀ B' H', Ext C.U B H B' H' → C.rep g H' → Q p.1 H'
theorem o_none : PO X none (tO C X.mg H0 W none) := by
  refine ⟨fun pins s σ H Q I hq => ?_⟩
  obtain ⟨B, ρ, γ, S, hq⟩ := hq
  rw [evo] at hq
  exact po_none.run pins s σ H Q I (hq B H (Ext.refl S.sub) S.gh)
theorem o_some {e : E} {x : Expr} (he : PE X x (tE C X.mg H0 W e)) : PO X (some x) (tO C X.mg H0 W (some e)) := by
  refine ⟨fun pins s σ H Q I hq => ?_⟩
  obtain ⟨B, ρ, γ, S, hq⟩ := hq
  rw [evo] at hq
  refine (po_some he).run pins s σ H Q I ⟨B, ρ, γ, S, hq.bind.imp fun d g h1 v B1 H1 x1 g1 r1 => ?_⟩
  obtain ⟨z, hz, h2⟩ := h1.opt
  obtain ⟨i, hi, rfl⟩ := Option.map_eq_some_iff.mp hz
  cases d <;> first | (cases hi; done) | skip
  cases hi
  exact ⟨_, (r1.b S.gh).int, h2 B1 H1 x1 g1⟩
theorem c_slc (ok : XOk G X N sc k C) {a : E} {lo hi : Option E} {x : Expr} {l u : Option Expr} {p2 : Pos} (ha : PE X x (tE C X.mg H0 W a)) (hl : PO X l (tO C X.mg H0 W lo)) (hh : PO X u (tO C X.mg H0 W hi)) :
    PE X (.Subscript x (.Slice l u none p2) pos) (tE C X.mg H0 W (.slc a lo hi)) := by
  refine ⟨fun pins s σ H Q I hq => ?_⟩
  obtain ⟨B, ρ, γ, S, hq⟩ := hq
  rw [ev] at hq
  refine (pe_slice (slc_ok ok.hK) ha hl hh).run pins s σ H Q I ⟨B, ρ, γ, S, hq.bind.imp fun d g h1 v B1 H1 x1 g1 r1 => ?_⟩
  have S1 := S.ext x1 g1
  refine ⟨B1, ρ, g, S1, (h1.ext x1).bind.imp fun e g2 h2 B2 H2 x2 g2' => ?_⟩
  have S2 := S1.ext x2 g2'
  refine ⟨B2, ρ, g2, S2, (h2.ext x2).bind.imp fun f g3 h3 B3 H3 x3 g3' => ?_⟩
  obtain ⟨z, hz, h4⟩ := h3.opt
  exact ⟨B3, g3, d, z, x3.s, g3', ((r1.b S.gh).mono x2).mono x3, hz, h4.ext ((x1.trans x2).trans x3)⟩
theorem c_rev (ok : XOk G X N sc k C) {a : E} {x : Expr} {j : Nat} {p1 p2 p3 : Pos} (ha : PE X x (tE C X.mg H0 W a)) : PE X (.Subscript x (.Slice none none (some (.UnaryOp .USub (.Constant (.int 1) j p1) p2)) p3) pos) (tE C X.mg H0 W (.rev a)) := by
  refine ⟨fun pins s σ H Q I hq => ?_⟩
  obtain ⟨B, ρ, γ, S, hq⟩ := hq
  rw [ev] at hq
  refine (pe_revA ha).run pins s σ H Q I ⟨B, ρ, γ, S, hq.bind.imp fun d g h1 v B1 H1 x1 g1 r1 => ?_⟩
  obtain ⟨z, hz, h2⟩ := h1.opt
  have h2 : Done C B1 H1 g .fresh z Q := h2.ext x1
  rw [← ok.hK]
  cases d <;> first | (cases hz; done) | skip
  · rw [revF] at hz
    split at hz
    · rename_i hsz
      cases hz
      exact .inl ⟨_, (r1.b S.gh).str, hsz, h2 _ _ _ (Ext.refl x1.s) g1 (.str _)⟩
    · cases hz
  · cases hz
    obtain ⟨l, vs, rfl, q1, q2, q3⟩ := (r1.b S.gh).tup x1.s
    exact .inr ⟨l, vs, rfl, .inr ⟨q2, h2.newT x1.s g1 q3.reverse⟩⟩
  · cases hz
    obtain ⟨l, vs, rfl, q1, q2⟩ := (r1.b S.gh).lst x1.s
    exact .inr ⟨l, vs, rfl, .inl ⟨SqL.of q1, h2.newL x1.s g1 q2.reverse⟩⟩
/-- a call of a def that is known -/
theorem c_call {f : Str} {m : Sem} {es : List E} {xs : List Expr} {p : Pos} (ok : XOk G X N sc k C) (hcm : calmB sc = true) (tk : Takes X W) (kn : KnowsC G X.prog X.w X.K X.mg X.base k f m) (hg : glB sc f = true) (hm : mEs N sc es xs = true) (ha : PA X xs (tAc C X.mg H0 W es)) :
    PE X (.Call (.Name f p) xs [] pos) (tE C X.mg H0 W (.call f m es)) := by
  obtain ⟨j, a, fd, ps, hj, F, hmg, hk, hb, har⟩ := kn
  obtain ⟨g1, g2, _⟩ := ok.gl hg
  refine ⟨fun pins s σ H Q I hq => ?_⟩
  obtain ⟨B, ρ, γ, S, hq⟩ := hq
  rw [ev] at hq
  have go : tAc C X.mg H0 W es σ H (fun vs H1 => spD G X.K X.mg ps.length m vs H1 Q fun cls od H' => W cls od σ H') := by
    refine ⟨B, ρ, γ, S, hq.bind.imp fun ds g h1 vs B1 H1 x1 g1 r1 => ?_⟩
    have S1 := S.ext x1 g1
    refine ⟨C, B1, g, ds, ok.hK, ok.hG, ok.hn, x1.s, g1, S1.uB, ok.nr hcm, r1, ?_, ?_⟩
    · by_cases e : ds.length = ps.length
      · exact e
      · rw [har ds g e] at h1; exact h1.elim
    · cases hr : m ds g with
      | ok d g2 =>
        rw [hr] at h1
        have h1 : Done C B H g2 .clean d Q := h1
        exact h1.ext x1
      | exc c fs g2 =>
        rw [hr] at h1
        exact fun cls od B' H' y g' e => h1 cls od B' H' (x1.trans y) g' e
      | no => rw [hr] at h1; exact h1.elim
  have hr := (ok.room hcm).mono hj
  refine wpAny_Call_Name_kw (ld_glob I g1 hmg ?_ g2)
  cases xs with
  | nil =>
    refine PySem.W.callWith_K0 I.kIn hk ?_
    obtain ⟨us, s1, h1⟩ : ∃ (us : List Value) (s1 : Shared), us = [] ∧ s1 = s := ⟨[], s, rfl, rfl⟩
    obtain ⟨B, ρ, γ, S, hq⟩ := go
    cases es with
    | cons e es => simp [mEs] at hm
    | nil =>
      rw [evs] at hq
      have hq := hq [] B H (Ext.refl S.sub) S.gh .nil
      exact runG F ok.gd hr hb tk I .nil hq
  | cons y ys =>
    cases es with
    | nil => simp [mEs] at hm
    | cons e es =>
      simp only [mEs, Bool.and_eq_true] at hm
      refine PySem.W.callWith_K (h₀ := X.base) I.ok.mod.kin hk (thn (ha.run pos pins s σ H _ I go) ?_) (starEach_cons hm.1.2) (mEs_plain hm.2 _ _)
      intro us s1 h1
      obtain ⟨vs, H1, I1, r, q⟩ := h1
      exact ⟨I1.kIn, runG F ok.gd hr hb tk I1 r q⟩
end
end PyI

set_option maxRecDepth 100000
/-! PyI, part H: built-ins called, and, or; what is walked; comprehensions. -/
namespace PyI
open PySem PySem.Spec PyProof.Rows L2
variable {G : Gho → Prop}

theorem boot_bi (f : BI) : bootBuiltins f.name = some f.val := by cases f <;> decide +kernel
theorem boot_isi : bootBuiltins "isinstance" = some (.builtin "isinstance") := by decide +kernel
theorem boot_ty (t : Ty) : bootBuiltins t.nm = some (.type t.name) := by cases t <;> decide +kernel
theorem bi_mem (f : BI) : f.name ∈ biNames := by cases f <;> decide +kernel
theorem ty_mem (t : Ty) : t.nm ∈ biNames := by cases t <;> decide +kernel

section
variable {X : Cx} {N : List Str} {sc : Scope} {k : Nat} {C : Gho} {W : WX} {H0 : Hp} {pos : Pos}
theorem c_bi (ok : XOk G X N sc k C) (hcm : calmB sc = true) {f : BI} {es : List E} {y : Expr} {xs : List Expr} {p : Pos} (hg : glB sc f.name = true) (hm : mEs N sc es (y :: xs) = true) (ha : PA X (y :: xs) (tAb C X.mg H0 W es)) :
    PE X (.Call (.Name f.name p) (y :: xs) [] pos) (tE C X.mg H0 W (.bi f es)) := by
  refine ⟨fun pins s σ H Q I hq => ?_⟩
  obtain ⟨B, ρ, γ, S, hq⟩ := hq
  rw [ev] at hq
  obtain ⟨g1, g2, g3⟩ := ok.gl hg
  have st : notStar y = true ∧ ∀ env, (backTo pos (starEach xs env)).any (·.1) = false := by
    cases es with
    | nil => simp [mEs] at hm
    | cons e es =>
      simp only [mEs, Bool.and_eq_true] at hm
      exact ⟨hm.1.2, fun env => mEs_plain hm.2 _ _⟩
  have key : tCB (rBi C (biF f)) (tAb C X.mg H0 W es) σ H Q := by
    refine ⟨B, ρ, γ, S, hq.bind.imp fun ds g h1 vs B1 H1 x1 g1 r1 => ?_⟩
    obtain ⟨z, hz, h2⟩ := h1.opt
    exact ⟨B1, g, ds, z, x1.s, g1, r1, hz, h2.ext x1⟩
  have bk := bi_ok ok.hK (ok.calm hcm) ok.gd ok.units f
  have hm0 := ok.bt _ (bi_mem f)
  have hv := boot_bi f
  cases hf : f.val with
  | builtin id =>
    rw [hf] at bk hv
    exact (pe_callB bk g1 hm0 hv ha g3 g2 (starEach_cons st.1) (st.2 _)).run pins s σ H Q I key
  | type T =>
    rw [hf] at bk hv
    exact (pe_callTy bk g1 hm0 hv ha g3 g2 (starEach_cons st.1) (st.2 _)).run pins s σ H Q I key
  | _ => cases f <;> cases hf
theorem c_isi (ok : XOk G X N sc k C) {a : E} {t : Ty} {x : Expr} {p p2 : Pos} (h1 : glB sc "isinstance" = true) (h2 : glB sc t.nm = true) (hs : notStar x = true) (ha : PE X x (tE C X.mg H0 W a)) :
    PE X (.Call (.Name "isinstance" p) [x, .Name t.nm p2] [] pos) (tE C X.mg H0 W (.isi a t)) := by
  refine ⟨fun pins s σ H Q I hq => ?_⟩
  obtain ⟨B, ρ, γ, S, hq⟩ := hq
  rw [ev] at hq
  obtain ⟨g1, g2, g3⟩ := ok.gl h1
  obtain ⟨g4, g5, g6⟩ := ok.gl h2
  have ha2 : PA X [x, .Name t.nm p2] (tCons (tE C X.mg H0 W a) (tCons (tC (.ty t.name)) tNil)) :=
    pa_cons ha (pa_cons (pe_bltn g4 (ok.bt _ (ty_mem t)) (boot_ty t) rfl g6 g5) pa_nil rfl) (starEach_cons hs)
  refine (pe_callB (isi_ok ok.hK t) g1 (ok.bt _ (by decide +kernel)) boot_isi ha2 g3 g2 (starEach_cons hs) rfl).run pins s σ H Q I ⟨B, ρ, γ, S, hq.bind.imp fun d g h1 v B1 H1 x1 g1 r1 => ?_⟩
  obtain ⟨z, hz, h2⟩ := h1.opt
  obtain ⟨r, hr, rfl⟩ := Option.map_eq_some_iff.mp hz
  exact ⟨B1, v, d, r, rfl, x1.s, r1.b S.gh, hr, (h2.ext x1).flat x1.s g1 rfl (.bl _)⟩
theorem c_lenset (ok : XOk G X N sc k C) (hcm : calmB sc = true) {a : E} {x : Expr} {p p2 q : Pos} (h1 : glB sc "len" = true) (h2 : glB sc "set" = true) (hs : notStar x = true) (ha : PE X x (tE C X.mg H0 W a)) :
    PE X (.Call (.Name "len" p) [.Call (.Name "set" p2) [x] [] q] [] pos) (tE C X.mg H0 W (.lenset a)) := by
  refine ⟨fun pins s σ H Q I hq => ?_⟩
  obtain ⟨B, ρ, γ, S, hq⟩ := hq
  rw [ev] at hq
  refine (pe_lenset (W := W) ok.hK (ok.gl h1).1 (ok.bt _ (by decide +kernel)) (ok.gl h2).1 (ok.bt _ (by decide +kernel)) ha (ok.calm hcm) (starEach_cons hs)).run pins s σ H Q I ⟨B, ρ, γ, S, hq.bind.imp fun d g h1 v B1 H1 x1 g1 r1 => ?_⟩
  obtain ⟨z, hz, h2⟩ := h1.opt
  exact ⟨B1, g, d, z, x1.s, g1, r1.b S.gh, hz, h2.ext x1⟩

/-! ### and, or -/
def tAndE (C : Gho) (mg : Str → Option Value) (H0 : Hp) (W : WX) (es : List E) : TE := fun σ H Q => ∃ B ρ γ, St C H0 B σ H ρ γ ∧ Fin C mg W B σ H (evAnd es ρ γ) fun d g => Done C B H g (kds es) d Q
def tOrE (C : Gho) (mg : Str → Option Value) (H0 : Hp) (W : WX) (es : List E) : TE := fun σ H Q => ∃ B ρ γ, St C H0 B σ H ρ γ ∧ Fin C mg W B σ H (evOr es ρ γ) fun d g => Done C B H g (kds es) d Q
theorem kds_one {e : E} : (kd e).le (kds [e]) = true := by rw [kds, kds]; exact worse_le.1
theorem kds_cons {e : E} {es : List E} : (kds es).le (kds (e :: es)) = true := by
  show (kds es).le ((kd e).worse (kds es)) = true
  exact worse_le.2
theorem and_one {e : E} {x : Expr} (he : PE X x (tE C X.mg H0 W e)) : PE X (.BoolOp .And [x] pos) (tAndE C X.mg H0 W [e]) := by
  refine ⟨fun pins s σ H Q I hq => ?_⟩
  obtain ⟨B, ρ, γ, S, hq⟩ := hq
  rw [evAnd] at hq
  exact (pe_one he).run pins s σ H Q I ⟨B, ρ, γ, S, hq.imp fun d g h => Done.le kds_one h⟩
theorem or_one {e : E} {x : Expr} (he : PE X x (tE C X.mg H0 W e)) : PE X (.BoolOp .Or [x] pos) (tOrE C X.mg H0 W [e]) := by
  refine ⟨fun pins s σ H Q I hq => ?_⟩
  obtain ⟨B, ρ, γ, S, hq⟩ := hq
  rw [evOr] at hq
  exact (pe_one he).run pins s σ H Q I ⟨B, ρ, γ, S, hq.imp fun d g h => Done.le kds_one h⟩
theorem and_cons {e e' : E} {es : List E} {x y : Expr} {ys : List Expr} (he : PE X x (tE C X.mg H0 W e)) (hs : PE X (.BoolOp .And (y :: ys) pos) (tAndE C X.mg H0 W (e' :: es))) : PE X (.BoolOp .And (x :: y :: ys) pos) (tAndE C X.mg H0 W (e :: e' :: es)) := by
  refine ⟨fun pins s σ H Q I hq => ?_⟩
  obtain ⟨B, ρ, γ, S, hq⟩ := hq
  rw [evAnd] at hq
  refine (pe_and he hs).run pins s σ H Q I ⟨B, ρ, γ, S, hq.bind.imp fun d g h1 v B1 H1 x1 g1 r1 => ?_⟩
  cases d <;> first | exact h1.elim | skip
  rename_i b
  refine ⟨b, (r1.b S.gh).bl, ?_⟩
  cases b with
  | true =>
    rw [if_pos rfl]
    exact ⟨B1, ρ, g, S.ext x1 g1, (h1.ext x1).imp fun d g h => Done.le kds_cons (h.ext x1)⟩
  | false =>
    rw [if_neg Bool.false_ne_true]
    have h1 : Done C B H g (kds (e :: e' :: es)) (.bl false) Q := h1
    exact (h1.ext x1).flat x1.s g1 rfl (.bl _)
theorem Fin.strO {B H : Hp} {σ : L2.St} {r : R D} {F : D → D → Prop} (h : Fin C X.mg W B σ H (strOnly r) F) : Fin C X.mg W B σ H r F := by
  cases r with
  | ok a g =>
    cases a <;> first | exact h.elim | exact h
  | exc c fs g => exact h.elim
  | no => exact h
theorem Fin.strT {B H : Hp} {σ : L2.St} {r : R D} {F : Bool → D → D → Prop} (h : Fin C X.mg W B σ H (strOnly r) fun d g => ∃ b, d = .bl b ∧ F b d g) : False := by
  cases r with
  | ok a g =>
    cases a <;> first | exact h.elim | (obtain ⟨b, h, _⟩ := h; cases h)
  | exc c fs g => exact h.elim
  | no => exact h
theorem or_cons {e e' : E} {es : List E} {x y : Expr} {ys : List Expr} (he : PE X x (tE C X.mg H0 W e)) (hs : PE X (.BoolOp .Or (y :: ys) pos) (tOrE C X.mg H0 W (e' :: es))) : PE X (.BoolOp .Or (x :: y :: ys) pos) (tOrE C X.mg H0 W (e :: e' :: es)) := by
  refine ⟨fun pins s σ H Q I hq => ?_⟩
  obtain ⟨B, ρ, γ, S, hq⟩ := hq
  rw [evOr] at hq
  refine (L2.pe_orT he hs).run pins s σ H Q I ⟨B, ρ, γ, S, hq.bind.imp fun d g h1 v B1 H1 x1 g1 r1 => ?_⟩
  cases d <;> first | exact h1.elim | skip
  · rename_i b
    obtain rfl := (r1.b S.gh).bl
    refine ⟨b, rfl, ?_⟩
    cases b with
    | false =>
      rw [if_neg Bool.false_ne_true]
      exact ⟨B1, ρ, g, S.ext x1 g1, (h1.ext x1).imp fun d g h => Done.le kds_cons (h.ext x1)⟩
    | true =>
      rw [if_pos rfl]
      have h1 : Done C B H g (kds (e :: e' :: es)) (.bl true) Q := h1
      exact (h1.ext x1).flat x1.s g1 rfl (.bl _)
  · rename_i z
    obtain rfl := (r1.b S.gh).str
    dsimp only at h1
    by_cases hz : z.length = 0
    · rw [if_pos hz] at h1
      refine ⟨false, ⟨by rw [hz]; exact Nat.zero_le _, by rw [hz]; rfl⟩, ?_⟩
      rw [if_neg Bool.false_ne_true]
      exact ⟨B1, ρ, g, S.ext x1 g1, (h1.strO.ext x1).imp fun d g h => Done.le kds_cons (h.ext x1)⟩
    · rw [if_neg hz] at h1
      split at h1
      · rename_i hl
        refine ⟨true, ⟨hl, (bne_iff_ne.mpr (by omega)).symm⟩, ?_⟩
        rw [if_pos rfl]
        have h1 : Done C B H g (kds (e :: e' :: es)) (.str z) Q := h1
        exact (h1.ext x1).flat x1.s g1 rfl (.str _)
      · exact h1.elim
def tAndT (C : Gho) (mg : Str → Option Value) (H0 : Hp) (W : WX) (es : List E) : TT := fun σ H Q => ∃ B ρ γ, St C H0 B σ H ρ γ ∧ Fin C mg W B σ H (evAnd es ρ γ) fun d g => ∃ b, d = .bl b ∧ DoneT C B H g b Q
def tOrT (C : Gho) (mg : Str → Option Value) (H0 : Hp) (W : WX) (es : List E) : TT := fun σ H Q => ∃ B ρ γ, St C H0 B σ H ρ γ ∧ Fin C mg W B σ H (evOr es ρ γ) fun d g => ∃ b, d = .bl b ∧ DoneT C B H g b Q
theorem DoneT.ext {B H B1 H1 : Hp} {γ : D} {b : Bool} {Q : Bool → Hp → Prop} (h : DoneT C B H γ b Q) (x : Ext C.U B H B1 H1) : DoneT C B1 H1 γ b Q := fun B2 H2 y g => h B2 H2 (x.trans y) g
theorem andT_one {e : E} {x : Expr} (he : PT X x (tT C X.mg H0 W e)) : PW X (.BoolOp .And [x] pos) (tAndT C X.mg H0 W [e]) := by
  refine ⟨fun wh pins s σ H Q I hq => ?_⟩
  obtain ⟨B, ρ, γ, S, hq⟩ := hq
  rw [evAnd] at hq
  exact (pw_and1 he).run wh pins s σ H Q I ⟨B, ρ, γ, S, hq⟩
theorem orT_one {e : E} {x : Expr} (he : PT X x (tT C X.mg H0 W e)) : PW X (.BoolOp .Or [x] pos) (tOrT C X.mg H0 W [e]) := by
  refine ⟨fun wh pins s σ H Q I hq => ?_⟩
  obtain ⟨B, ρ, γ, S, hq⟩ := hq
  rw [evOr] at hq
  exact (pw_or1 he).run wh pins s σ H Q I ⟨B, ρ, γ, S, hq⟩
theorem andT_cons {e e' : E} {es : List E} {x y : Expr} {ys : List Expr} (he : PT X x (tT C X.mg H0 W e)) (hs : PW X (.BoolOp .And (y :: ys) pos) (tAndT C X.mg H0 W (e' :: es))) : PW X (.BoolOp .And (x :: y :: ys) pos) (tAndT C X.mg H0 W (e :: e' :: es)) := by
  refine ⟨fun wh pins s σ H Q I hq => ?_⟩
  obtain ⟨B, ρ, γ, S, hq⟩ := hq
  rw [evAnd] at hq
  refine (pw_and he hs).run wh pins s σ H Q I ⟨B, ρ, γ, S, hq.bind.imp fun d g h1 => ?_⟩
  cases d <;> first | exact h1.elim | skip
  rename_i b
  refine ⟨b, rfl, fun B1 H1 x1 g1 => ?_⟩
  cases b with
  | true =>
    rw [if_pos rfl]
    exact ⟨B1, ρ, g, S.ext x1 g1, (h1.ext x1).imp fun d g ⟨r, h2, h3⟩ => ⟨r, h2, h3.ext x1⟩⟩
  | false =>
    rw [if_neg Bool.false_ne_true]
    obtain ⟨r, h2, h3⟩ := h1
    cases h2
    exact h3 B1 H1 x1 g1
theorem orT_cons {e e' : E} {es : List E} {x y : Expr} {ys : List Expr} (he : PT X x (tT C X.mg H0 W e)) (hs : PW X (.BoolOp .Or (y :: ys) pos) (tOrT C X.mg H0 W (e' :: es))) : PW X (.BoolOp .Or (x :: y :: ys) pos) (tOrT C X.mg H0 W (e :: e' :: es)) := by
  refine ⟨fun wh pins s σ H Q I hq => ?_⟩
  obtain ⟨B, ρ, γ, S, hq⟩ := hq
  rw [evOr] at hq
  refine (pw_or he hs).run wh pins s σ H Q I ⟨B, ρ, γ, S, hq.bind.imp fun d g h1 => ?_⟩
  cases d <;> first | exact h1.elim | skip
  rotate_left
  · exfalso
    dsimp only at h1
    split at h1
    · exact h1.strT
    · split at h1
      · obtain ⟨b, h, _⟩ := h1
        cases h
      · exact h1
  rename_i b
  refine ⟨b, rfl, fun B1 H1 x1 g1 => ?_⟩
  cases b with
  | false =>
    rw [if_neg Bool.false_ne_true]
    exact ⟨B1, ρ, g, S.ext x1 g1, (h1.ext x1).imp fun d g ⟨r, h2, h3⟩ => ⟨r, h2, h3.ext x1⟩⟩
  | true =>
    rw [if_pos rfl]
    obtain ⟨r, h2, h3⟩ := h1
    cases h2
    exact h3 B1 H1 x1 g1

/-! ### what is walked -/
/-- the iterator gives the data xs wherever the source src still stands -/
def RepG (K : PySem.W.Frag) (hv : Nat → V) (B : Hp) (pr : Bool) (v : V) (d : D) : Prop := match pr with
  | false => Rep K hv B v d
  | true => ∃ a vs ds, v = .ref a ∧ d = .tup ds ∧ SqT K B a vs ∧ Reps K hv B vs ds
structure Drive (C : Gho) (B0 H0 : Hp) (src : List Addr) (pr : Bool) (J : It) (xs : List D) : Prop where
  go : ∀ i B H, Same B0 B → Same B H → (∀ a ∈ src, H a = H0 a) → i < xs.length → J.go i H
  yld : ∀ i B H x H', Same B0 B → Same B H → (∀ a ∈ src, H a = H0 a) → i < xs.length → J.yld i H x H' → ∃ B' d, xs[i]? = some d ∧ Ext C.U B H B' H' ∧ (∀ a, H a ≠ none → H' a = H a) ∧ RepG C.K C.hv B' pr x d
  stop : ∀ B H, Same B0 B → Same B H → (∀ a ∈ src, H a = H0 a) → J.stop xs.length H
def kSrc (k : Kd) (src : List Addr) : Prop := match k with
  | .borrow => True
  | _ => src = []
def tI (C : Gho) (mg : Str → Option Value) (H0 : Hp) (W : WX) (it : I) : TI := fun σ H R => ∃ B ρ γ, St C H0 B σ H ρ γ ∧ Fin C mg W B σ H (evI it ρ γ) fun xs g =>
  ∀ J B' H' src, Ext C.U B H B' H' → C.rep g H' → kSrc (kI it) src → (∀ a ∈ src, H' a ≠ none ∧ ¬ C.U a) → Drive C B' H' src (!plainI it) J xs → R J H'
theorem drive_list {B0 H0 : Hp} {src : List Addr} {a : Addr} {vs : List V} {ds : List D} (hs : ∀ B H, Same B0 B → Same B H → (∀ a ∈ src, H a = H0 a) → SqL C.K H a vs) (r : Reps C.K C.hv B0 vs ds) : Drive C B0 H0 src false (Itl C.K a) ds where
  go := fun i B H h1 h2 h3 hi => ⟨vs, vs[i]'(by rw [r.length]; exact hi), hs B H h1 h2 h3, List.getElem?_eq_getElem _⟩
  yld := fun i B H x H' h1 h2 h3 _ y => by
    obtain ⟨rfl, y⟩ := y
    obtain ⟨d, h4, h5⟩ := r.getV (y _ (hs B _ h1 h2 h3))
    exact ⟨B, d, h4, Ext.refl h2, fun _ _ => rfl, Rep.mono h1 _ _ h5⟩
  stop := fun B H h1 h2 h3 => ⟨vs, hs B H h1 h2 h3, by rw [r.length]; exact Nat.le_refl _⟩
theorem drive_tup {B0 H0 : Hp} {src : List Addr} {a : Addr} {vs : List V} {ds : List D} (hs : SqT C.K B0 a vs) (r : Reps C.K C.hv B0 vs ds) : Drive C B0 H0 src false (Itt C.K a) ds where
  go := fun i B H h1 h2 h3 hi => ⟨vs, vs[i]'(by rw [r.length]; exact hi), sqT_mono (h1.trans h2) hs, List.getElem?_eq_getElem _⟩
  yld := fun i B H x H' h1 h2 h3 _ y => by
    obtain ⟨rfl, y⟩ := y
    obtain ⟨d, h4, h5⟩ := r.getV (y _ (sqT_mono (h1.trans h2) hs))
    exact ⟨B, d, h4, Ext.refl h2, fun _ _ => rfl, Rep.mono h1 _ _ h5⟩
  stop := fun B H h1 h2 h3 => ⟨vs, sqT_mono (h1.trans h2) hs, by rw [r.length]; exact Nat.le_refl _⟩
theorem drive_rng {B0 H0 : Hp} {src : List Addr} (lo : Int) (n : Nat) : Drive C B0 H0 src false (Itr lo n) (rngL lo n) where
  go := fun i B H h1 h2 h3 hi => show i < n by simpa [rngL] using hi
  yld := fun i B H x H' h1 h2 h3 hi y => by
    obtain ⟨rfl, rfl⟩ := y
    have hn : i < n := by simpa [rngL] using hi
    exact ⟨B, .int (lo + i), by simp [rngL, hn], Ext.refl h2, fun _ _ => rfl, .int _⟩
  stop := fun B H h1 h2 h3 => show n ≤ (rngL lo n).length by simp [rngL]
theorem drive_rng3 {B0 H0 : Hp} {src : List Addr} (lo c : Int) (n : Nat) : Drive C B0 H0 src false (Itc lo c n) (rng3L lo c n) where
  go := fun i B H h1 h2 h3 hi => show i < n by simpa [rng3L] using hi
  yld := fun i B H x H' h1 h2 h3 hi y => by
    obtain ⟨rfl, rfl⟩ := y
    have hn : i < n := by simpa [rng3L] using hi
    exact ⟨B, .int (lo + i * c), by simp [rng3L, hn], Ext.refl h2, fun _ _ => rfl, .int _⟩
  stop := fun B H h1 h2 h3 => show n ≤ (rng3L lo c n).length by simp [rng3L]
theorem drive_str {B0 H0 : Hp} {src : List Addr} (z : Str) : Drive C B0 H0 src false (Its z) (z.cps.toList.map fun c => .str ⟨#[c]⟩) where
  go := fun i B H h1 h2 h3 hi => show i < z.cps.size by simpa using hi
  yld := fun i B H x H' h1 h2 h3 hi y => by
    obtain ⟨rfl, c, hc, rfl⟩ := y
    exact ⟨B, .str ⟨#[c]⟩, by simp [hc], Ext.refl h2, fun _ _ => rfl, .str _⟩
  stop := fun B H h1 h2 h3 => show z.cps.size ≤ _ by simp
theorem upd_stays {H : Hp} {p : Addr} {o : HO} (hp : H p = none) : ∀ a, H a ≠ none → upd H p o a = H a := fun a ha => upd_ne fun e => ha (by rw [e]; exact hp)
theorem drive_enum {B0 H0 : Hp} {src : List Addr} {a : Addr} {vs : List V} {ds : List D} (hs : ∀ B H, Same B0 B → Same B H → (∀ a ∈ src, H a = H0 a) → SqL C.K H a vs) (r : Reps C.K C.hv B0 vs ds) : Drive C B0 H0 src true (Ite C.K a) (enumL ds) where
  go := fun i B H h1 h2 h3 hi => by
    have hi : i < ds.length := by simpa [enumL] using hi
    exact ⟨vs, vs[i]'(by rw [r.length]; exact hi), hs B H h1 h2 h3, List.getElem?_eq_getElem _⟩
  yld := fun i B H x H' h1 h2 h3 hi y => by
    have hi : i < ds.length := by simpa [enumL] using hi
    obtain ⟨T, w, rfl, hT, rfl, y⟩ := y
    obtain ⟨d, h4, h5⟩ := r.getV (y _ (hs B _ h1 h2 h3))
    refine ⟨upd B T (.tup [.int (i : Nat), w]), .tup [.int i, d], ?_, Ext.allocB h2 hT, upd_stays hT, ⟨_, _, _, rfl, rfl, .inl (.inl upd_same), (.cons (.int _) (.cons (Rep.mono (h1.trans (same_adopt (h2.free hT))) _ _ h5) .nil))⟩⟩
    have h6 := (List.getElem?_eq_some_iff.mp h4).2
    simp [enumL, List.getElem?_zipWith, hi, h6]
  stop := fun B H h1 h2 h3 => ⟨vs, hs B H h1 h2 h3, by rw [r.length]; simp [enumL]⟩
theorem drive_zip {B0 H0 : Hp} {src : List Addr} {a b : Addr} {vs ws : List V} {ds es : List D} (hs : ∀ B H, Same B0 B → Same B H → (∀ a ∈ src, H a = H0 a) → SqL C.K H a vs) (hs' : ∀ B H, Same B0 B → Same B H → (∀ a ∈ src, H a = H0 a) → SqL C.K H b ws)
    (r : Reps C.K C.hv B0 vs ds) (r' : Reps C.K C.hv B0 ws es) : Drive C B0 H0 src true (Itz C.K a b) (ds.zipWith (fun x y => .tup [x, y]) es) where
  go := fun i B H h1 h2 h3 hi => by
    have hi : i < ds.length ∧ i < es.length := by simp only [List.length_zipWith] at hi; omega
    exact ⟨vs, ws, vs[i]'(by rw [r.length]; exact hi.1), ws[i]'(by rw [r'.length]; exact hi.2), hs B H h1 h2 h3, hs' B H h1 h2 h3, List.getElem?_eq_getElem _, List.getElem?_eq_getElem _⟩
  yld := fun i B H x H' h1 h2 h3 hi y => by
    obtain ⟨T, v, w, rfl, hT, rfl, y1, y2⟩ := y
    obtain ⟨d, h4, h5⟩ := r.getV (y1 _ (hs B _ h1 h2 h3))
    obtain ⟨e, h6, h7⟩ := r'.getV (y2 _ (hs' B _ h1 h2 h3))
    have m := h1.trans (same_adopt (p := T) (o := .tup [v, w]) (h2.free hT))
    refine ⟨upd B T (.tup [v, w]), .tup [d, e], ?_, Ext.allocB h2 hT, upd_stays hT, ⟨_, _, _, rfl, rfl, .inl (.inl upd_same), (.cons (Rep.mono m _ _ h5) (.cons (Rep.mono m _ _ h7) .nil))⟩⟩
    simp [List.getElem?_zipWith, h4, h6]
  stop := fun B H h1 h2 h3 => ⟨vs, ws, hs B H h1 h2 h3, hs' B H h1 h2 h3, by rw [r.length, r'.length, List.length_zipWith]; omega⟩
theorem drive_zipT {B0 H0 : Hp} {src : List Addr} {a b : Addr} {vs ws : List V} {ds es : List D} (hs : SqT C.K B0 a vs) (hs' : SqT C.K B0 b ws) (r : Reps C.K C.hv B0 vs ds) (r' : Reps C.K C.hv B0 ws es) :
    Drive C B0 H0 src true (RZ.ItzT C.K a b) (ds.zipWith (fun x y => .tup [x, y]) es) where
  go := fun i B H h1 h2 h3 hi => by
    have hi : i < ds.length ∧ i < es.length := by simp only [List.length_zipWith] at hi; omega
    exact ⟨vs, ws, vs[i]'(by rw [r.length]; exact hi.1), ws[i]'(by rw [r'.length]; exact hi.2), sqT_mono (h1.trans h2) hs, sqT_mono (h1.trans h2) hs', List.getElem?_eq_getElem _, List.getElem?_eq_getElem _⟩
  yld := fun i B H x H' h1 h2 h3 hi y => by
    obtain ⟨T, v, w, rfl, hT, rfl, y1, y2⟩ := y
    obtain ⟨d, h4, h5⟩ := r.getV (y1 _ (sqT_mono (h1.trans h2) hs))
    obtain ⟨e, h6, h7⟩ := r'.getV (y2 _ (sqT_mono (h1.trans h2) hs'))
    have m := h1.trans (same_adopt (p := T) (o := .tup [v, w]) (h2.free hT))
    refine ⟨upd B T (.tup [v, w]), .tup [d, e], ?_, Ext.allocB h2 hT, upd_stays hT, ⟨_, _, _, rfl, rfl, .inl (.inl upd_same), (.cons (Rep.mono m _ _ h5) (.cons (Rep.mono m _ _ h7) .nil))⟩⟩
    simp [List.getElem?_zipWith, h4, h6]
  stop := fun B H h1 h2 h3 => ⟨vs, ws, sqT_mono (h1.trans h2) hs, sqT_mono (h1.trans h2) hs', by rw [r.length, r'.length, List.length_zipWith]; omega⟩
theorem rev_at {α : Type} {xs : List α} {i : Nat} {x : α} (h : xs[xs.length - 1 - i]? = some x) (hi : i < xs.length) : xs.reverse[i]? = some x := by
  rw [List.getElem?_reverse hi]; exact h
theorem drive_rev {B0 H0 : Hp} {src : List Addr} {a : Addr} {vs : List V} {ds : List D} (hs : ∀ B H, Same B0 B → Same B H → (∀ a ∈ src, H a = H0 a) → SqL C.K H a vs) (r : Reps C.K C.hv B0 vs ds) : Drive C B0 H0 src false (Itv C.K a vs.length) ds.reverse where
  go := fun i B H h1 h2 h3 hi => by
    have hi : i < vs.length := by rw [r.length]; simpa using hi
    exact ⟨hi, vs, vs[vs.length - 1 - i]'(by omega), hs B H h1 h2 h3, List.getElem?_eq_getElem _⟩
  yld := fun i B H x H' h1 h2 h3 hi y => by
    obtain ⟨rfl, y⟩ := y
    have hi : i < ds.length := by simpa using hi
    obtain ⟨d, h4, h5⟩ := r.getV (y _ (hs B _ h1 h2 h3))
    rw [r.length] at h4
    exact ⟨B, d, rev_at h4 hi, Ext.refl h2, fun _ _ => rfl, Rep.mono h1 _ _ h5⟩
  stop := fun B H h1 h2 h3 => show vs.length ≤ _ by rw [r.length]; simp
theorem drive_revT {B0 H0 : Hp} {src : List Addr} {a : Addr} {vs : List V} {ds : List D} (hs : SqT C.K B0 a vs) (r : Reps C.K C.hv B0 vs ds) : Drive C B0 H0 src false (RT.ItvT C.K a vs.length) ds.reverse where
  go := fun i B H h1 h2 h3 hi => by
    have hi : i < vs.length := by rw [r.length]; simpa using hi
    exact ⟨hi, vs, vs[vs.length - 1 - i]'(by omega), sqT_mono (h1.trans h2) hs, List.getElem?_eq_getElem _⟩
  yld := fun i B H x H' h1 h2 h3 hi y => by
    obtain ⟨rfl, y⟩ := y
    have hi : i < ds.length := by simpa using hi
    obtain ⟨d, h4, h5⟩ := r.getV (y _ (sqT_mono (h1.trans h2) hs))
    rw [r.length] at h4
    exact ⟨B, d, rev_at h4 hi, Ext.refl h2, fun _ _ => rfl, Rep.mono h1 _ _ h5⟩
  stop := fun B H h1 h2 h3 => show vs.length ≤ _ by rw [r.length]; simp

/-- a value that is a list, ready to be walked -/
def SrcOk (C : Gho) (k : Kd) (B H B1 H1 : Hp) (v : V) (xs : List D) : Prop :=
  ∃ a vs B2 src, v = .ref a ∧ H1 a = some (.lst vs) ∧ Ext C.U B H B2 H1 ∧ Same B1 B2 ∧ Reps C.K C.hv B2 vs xs ∧ kSrc k src ∧ (∀ b ∈ src, H1 b ≠ none ∧ ¬ C.U b) ∧ ∀ B3 H3, Same B2 B3 → Same B3 H3 → (∀ b ∈ src, H3 b = H1 b) → SqL C.K H3 a vs
theorem src_val {B H B1 H1 : Hp} {k : Kd} {v : V} {xs : List D} (x : Ext C.U B H B1 H1) (r : Rep C.K C.hv B1 v (.lst xs)) : SrcOk C k B H B1 H1 v xs := by
  cases r with
  | lst ha ra =>
    exact ⟨_, _, B1, [], rfl, x.s _ _ ha, x, Same.refl _, ra, by cases k <;> first | rfl | trivial, fun b hb => (nomatch hb), fun B3 H3 h1 h2 _ => SqL.of (h2 _ _ (h1 _ _ ha))⟩
theorem src_of {B H B1 H1 : Hp} {γ : D} {k : Kd} {v : V} {xs : List D} (gh : C.rep γ H) (x : Ext C.U B H B1 H1) (r : RV C k H B1 H1 v (.lst xs)) : SrcOk C k B H B1 H1 v xs := by
  cases k with
  | clean => exact src_val x r
  | borrow =>
    rcases r with r | ⟨l, vs, ys, h1, h2, h3, h4, h5⟩ | ⟨_, _, _, _, h2, _⟩
    · exact src_val x r
    · cases h2
      exact ⟨l, vs, B1, [l], h1, h3, x, Same.refl _, h5, trivial, fun b hb => by rw [List.mem_singleton.mp hb]; exact ⟨by rw [h3]; exact fun z => (nomatch z), h4⟩, fun B3 H3 _ _ h => SqL.of (by rw [h l (List.mem_singleton.mpr rfl)]; exact h3)⟩
    · cases h2
  | fresh =>
    obtain ⟨l, vs, rfl, h2, h3, h4, h5⟩ := r
    have m : Same B1 (upd B1 l (.lst vs)) := same_adopt h3
    exact ⟨l, vs, upd B1 l (.lst vs), [], rfl, h4, x.adopt h2 h3 h4, m, Reps.mono m _ _ h5, rfl, fun b hb => (nomatch hb), fun B3 H3 h1 h2 _ => SqL.of (h2 _ _ (h1 _ _ upd_same))⟩
theorem kSrc_nil {k : Kd} : kSrc k [] := by cases k <;> first | rfl | trivial
theorem i_e {a : E} {tg x : Expr} (ok : XOk G X N sc k C) (ha : PE X x (tE C X.mg H0 W a)) : PI X tg x (tI C X.mg H0 W (.e a)) := by
  refine ⟨fun pins s σ H R I hq => ?_⟩
  obtain ⟨B, ρ, γ, S, hq⟩ := hq
  rw [evI] at hq
  have h0 := hq.bind.with
  cases he : ev a ρ γ with
  | no => rw [he] at h0; exact h0.elim
  | exc c fs g =>
    rw [he] at h0
    refine (pi_list ha).run pins s σ H R I ⟨B, ρ, γ, S, ?_⟩
    rw [he]
    exact h0
  | ok d g =>
    rw [he] at h0
    obtain ⟨_, h0⟩ := h0
    obtain ⟨xs, hx, h1⟩ := h0.opt
    unfold itemsF at hx
    split at hx
    · cases hx
      refine (pi_list ha).run pins s σ H R I ⟨B, ρ, γ, S, ?_⟩
      rw [he]
      intro v B1 H1 x1 g1 r1
      obtain ⟨l, vs, B2, src, rfl, h2, x2, m, r2, ks, hs, sq⟩ := src_of S.gh x1 r1
      exact ⟨l, rfl, ⟨vs, SqL.of h2⟩, by rw [← ok.hK]; exact h1 _ B2 H1 src x2 g1 ks hs (drive_list sq r2)⟩
    · cases hx
      refine (pi_tup ha).run pins s σ H R I ⟨B, ρ, γ, S, ?_⟩
      rw [he]
      intro v B1 H1 x1 g1 r1
      obtain ⟨l, vs, rfl, h2, h3, r2⟩ := (r1.b S.gh).tup x1.s
      exact ⟨l, rfl, ⟨vs, ok.hK ▸ h3⟩, by rw [← ok.hK]; exact h1 _ B1 H1 [] x1 g1 kSrc_nil (fun _ hb => (nomatch hb)) (drive_tup h2.t r2)⟩
    · cases hx
      refine (pi_str ha).run pins s σ H R I ⟨B, ρ, γ, S, ?_⟩
      rw [he]
      intro v B1 H1 x1 g1 r1
      exact ⟨_, (r1.b S.gh).str, h1 _ B1 H1 [] x1 g1 kSrc_nil (fun _ hb => (nomatch hb)) (drive_str _)⟩
    · cases hx
      refine (pi_list ha).run pins s σ H R I ⟨B, ρ, γ, S, ?_⟩
      rw [he]
      intro v B1 H1 x1 g1 r1
      obtain ⟨l, rfl, h2, h3⟩ := (r1.b S.gh).scr x1.s
      exact ⟨l, rfl, ⟨_, ok.hK ▸ h3⟩, by rw [← ok.hK]; exact h1 _ B1 H1 [] x1 g1 kSrc_nil (fun _ hb => (nomatch hb)) (drive_list (fun B H m1 m2 _ => sqL_mono m2 (sqL_mono m1 h2)) (Reps.ofInts _))⟩
    · cases hx
theorem bd_of {i : Int} (h : inBd i = true) : -(2 ^ 62) ≤ i ∧ i < 2 ^ 62 := by
  simp only [inBd, Bool.and_eq_true, decide_eq_true_eq] at h
  exact h
theorem i_rng1 {a : E} {tg x : Expr} {p : Pos} (ok : XOk G X N sc k C) (hg : glB sc "range" = true) (hs : notStar x = true) (ha : PE X x (tE C X.mg H0 W a)) : PI X tg (.Call (.Name "range" p) [x] [] pos) (tI C X.mg H0 W (.rng1 a)) := by
  refine ⟨fun pins s σ H R I hq => ?_⟩
  obtain ⟨B, ρ, γ, S, hq⟩ := hq
  rw [evI] at hq
  have e1 : starEach [x] X.env = [(false, eval x X.env)] := starEach_cons hs
  refine (pi_range1 (ok.gl hg).1 (ok.bt _ (by decide +kernel)) (pa_cons ha pa_nil e1) e1).run pins s σ H R I ⟨B, ρ, γ, S, hq.bind.imp fun d g h1 v B1 H1 x1 g1 r1 => ?_⟩
  cases d <;> first | exact h1.elim | skip
  rename_i j
  simp only at h1
  split at h1
  · rename_i hb
    obtain ⟨b1, b2⟩ := bd_of hb
    exact ⟨j, by rw [(r1.b S.gh).int], b1, b2, h1 _ B1 H1 [] x1 g1 rfl (fun _ hb => (nomatch hb)) (drive_rng 0 _)⟩
  · exact h1.elim
theorem i_rng2 {a b : E} {tg x y : Expr} {p : Pos} (ok : XOk G X N sc k C) (hg : glB sc "range" = true) (hs : notStar x = true) (hs' : notStar y = true) (ha : PE X x (tE C X.mg H0 W a)) (hb : PE X y (tE C X.mg H0 W b)) :
    PI X tg (.Call (.Name "range" p) [x, y] [] pos) (tI C X.mg H0 W (.rng2 a b)) := by
  refine ⟨fun pins s σ H R I hq => ?_⟩
  obtain ⟨B, ρ, γ, S, hq⟩ := hq
  rw [evI] at hq
  have e2 : starEach [y] X.env = [(false, eval y X.env)] := starEach_cons hs'
  have e1 : starEach [x, y] X.env = [(false, eval x X.env), (false, eval y X.env)] := by rw [starEach_cons hs, e2]
  have e3 : starEach [x, y] X.env = (false, eval x X.env) :: starEach [y] X.env := starEach_cons hs
  refine (pi_range2 (ok.gl hg).1 (ok.bt _ (by decide +kernel)) (pa_cons ha (pa_cons hb pa_nil e2) e3) e1 e2).run pins s σ H R I ⟨B, ρ, γ, S, hq.bind.imp fun d g h1 v B1 H1 x1 g1 r1 => ?_⟩
  refine ⟨B1, ρ, g, S.ext x1 g1, (h1.ext x1).bind.imp fun e g2 h2 w B2 H2 x2 g2' r2 => ?_⟩
  cases d <;> cases e <;> first | exact h2.elim | skip
  rename_i i j
  simp only at h2
  split at h2
  · rename_i hb
    simp only [Bool.and_eq_true] at hb
    obtain ⟨b1, b2⟩ := bd_of hb.1
    obtain ⟨b3, b4⟩ := bd_of hb.2
    exact ⟨i, j, by rw [(r1.b S.gh).int, (r2.b (S.ext x1 g1).gh).int], ⟨b1, b2, b3, b4⟩, h2 _ B2 H2 [] (x1.trans x2) g2' rfl (fun _ hb => (nomatch hb)) (drive_rng i _)⟩
  · exact h2.elim
theorem i_rng3 {a b c : E} {tg x y z : Expr} {p : Pos} (ok : XOk G X N sc k C) (hg : glB sc "range" = true) (hs : notStar x = true) (hs' : notStar y = true) (hs'' : notStar z = true) (ha : PE X x (tE C X.mg H0 W a)) (hb : PE X y (tE C X.mg H0 W b)) (hc : PE X z (tE C X.mg H0 W c)) :
    PI X tg (.Call (.Name "range" p) [x, y, z] [] pos) (tI C X.mg H0 W (.rng3 a b c)) := by
  refine ⟨fun pins s σ H R I hq => ?_⟩
  obtain ⟨B, ρ, γ, S, hq⟩ := hq
  rw [evI] at hq
  have e3 : starEach [z] X.env = [(false, eval z X.env)] := starEach_cons hs''
  have e2 : starEach [y, z] X.env = (false, eval y X.env) :: starEach [z] X.env := starEach_cons hs'
  have e1 : starEach [x, y, z] X.env = (false, eval x X.env) :: starEach [y, z] X.env := starEach_cons hs
  refine (pi_range3 (ok.gl hg).1 (ok.bt _ (by decide +kernel)) (pa_cons ha (pa_cons hb (pa_cons hc pa_nil e3) e2) e1) e1 (by rw [e2, e3]; rfl)).run pins s σ H R I ⟨B, ρ, γ, S, hq.bind.imp fun d g h1 v B1 H1 x1 g1 r1 => ?_⟩
  have S1 := S.ext x1 g1
  refine ⟨B1, ρ, g, S1, (h1.ext x1).bind.imp fun e g2 h2 w B2 H2 x2 g2' r2 => ?_⟩
  have S2 := S1.ext x2 g2'
  refine ⟨B2, ρ, g2, S2, (h2.ext x2).bind.imp fun f g3 h3 u B3 H3 x3 g3' r3 => ?_⟩
  cases d <;> first | exact h3.elim | skip
  cases e <;> first | exact h3.elim | skip
  cases f <;> first | exact h3.elim | skip
  rename_i i j q
  simp only at h3
  split at h3
  · rename_i hb
    simp only [Bool.and_eq_true, decide_eq_true_eq] at hb
    obtain ⟨b1, b2⟩ := bd_of hb.1.1
    obtain ⟨b3, b4⟩ := bd_of hb.1.2
    obtain rfl := hb.2
    exact ⟨i, j, -1, (i - j).toNat, by rw [(r1.b S.gh).int, (r2.b S1.gh).int, (r3.b S2.gh).int], RgC.neg b1 b2 b3 b4, h3 _ B3 H3 [] ((x1.trans x2).trans x3) g3' rfl (fun _ hb => (nomatch hb)) (drive_rng3 i (-1) _)⟩
  · exact h3.elim
end
end PyI

set_option maxRecDepth 100000
/-! PyI, part EN: enumerate over a tuple, over a text. -/
namespace PyI
open PySem
open Sem (wp)
set_option maxHeartbeats 1000000 in
theorem meets_enum1 {v : Value} {o : Obj} {Z : Heap → Prop} (B : Begins v o Z) : Meets (Builtin.«enumerate.__new__» ⟨[.type "enumerate", v], []⟩)
    (fun _ R s => Z s.heap ∧ R (.ok (.ret (.ref (s.heap.push o).objs.size)))
      { s with heap := (s.heap.push o).push { cls := .type "enumerate", data := .fields #[.none, .bool false, .ref s.heap.objs.size, rawInt 0, .none, .none] } }) :=
  .of_wp fun P w A R s hh => by
    obtain ⟨hp, g, d, tk, os⟩ := s; obtain ⟨hz, hh⟩ := hh
    have sub := sub_enumerate
    have it1 : ∀ {A' : Around} {E Q : Value → Shared → Prop}, Q (.ref hp.objs.size) ⟨hp.push o, g, d, tk, os⟩ → wpAny (model P w) A' (pyIter v) Q E ⟨hp, g, d, tk, os⟩ := fun q => B.iter P w _ _ ⟨hp, g, d, tk, os⟩ _ hz q
    wp_walk using it1
    refine wpAny_stack_any fun st => wpAny_pure ?_
    split
    · rename_i cc _ _ _ _ _
      cases (cc == Value.type "enumerate") <;> (wp_walk using it1; exact ⟨_, rfl, hh⟩)
    · wp_walk using it1
      exact ⟨_, rfl, hh⟩
theorem enum1_begins {P : Program} {w : World} {A : Around} {E : Value → Shared → Prop} {s : Shared} {v : Value} {o : Obj} {Z : Heap → Prop} {Q : Value → Shared → Prop} (B : Begins v o Z) (hz : Z s.heap)
    (h : ∀ h', IsEnum h' (s.heap.objs.size + 1) s.heap.objs.size 0 .none → h'.get? s.heap.objs.size = some o → h'.objs.size = s.heap.objs.size + 2 → (∀ b u, s.heap.get? b = some u → h'.get? b = some u) → Q (.ref (s.heap.objs.size + 1)) { s with heap := h' }) :
    wpAny (model P w) A (call (.type "enumerate") [v]) Q E s := by
  refine callType_new F.called_enumerate (by decide) (F.typeCall_enumerate_1 _) (F.newCall_enumerate_1 _) (fun b => F.args_object_init_2 b _) F.entry_enumerate_new (meets_enum1 B) ⟨hz, ?_⟩
  have h0 : (s.heap.push o).objs.size = s.heap.objs.size + 1 := Heap.size_push ..
  have e0 := Heap.get?_push_size (s.heap.push o) (o := { cls := .type "enumerate", data := .fields #[.none, .bool false, .ref s.heap.objs.size, rawInt 0, .none, .none] }) rfl
  rw [h0] at e0
  show _ ∧ _
  rw [h0]
  exact ⟨⟨_, e0, rfl⟩, h _ e0 (Heap.get?_push_of_some _ (Heap.get?_push_size _ B.free)) (by rw [Heap.size_push, h0]) fun b u x => Heap.get?_push_of_some _ (Heap.get?_push_of_some _ x)⟩
theorem enum_endT {P : Program} {w : World} {A : Around} {E : Value → Shared → Prop} {s : Shared} {e it a : Addr} {i : Nat} {c : Int} {items : Array Value} {old : Value} {Q : Option Value → Shared → Prop} (hh : A.handled = none)
    (he : IsEnum s.heap e it c old) (hit : s.heap.IsTupleIter it a i) (ha : s.heap.IsTuple a items) (hx : items[i]? = none) (hQ : ∀ h', Heap.ExtBut it s.heap h' → Q none { s with heap := h' }) : wpAny (model P w) A (pyNext (.ref e)) Q E s := by
  have ty : s.TypeIs (.ref e) "enumerate" := ⟨_, he, rfl⟩
  unfold pyNext
  refine wpAny_bind (wpAny_attempt (wpAny_callSpecial?_slot (name := Str.ofString "__next__") ty F.slot_enumerate_next (wpAny_call_entry F.slot_enumerate_next ty F.entry_enumerate_next ?_ (F.args_enumerate_next_1 _))))
  show wpAny _ _ (field (.ref e) 2 >>= _) _ _ _
  refine wpAny_bind (wpAny_field he rfl (x := .ref it) rfl (wpAny_bind (wpAny_nextOf_tuple_end (A := A.in1) (show A.in1.handled = none from hh) hit ha hx fun h' x he' hx' => ?_)))
  obtain ⟨o, ho, hc⟩ := hx'
  exact wpAny_bind (wpAny_isInstance (T := "StopIteration") (b := true) ⟨o, ho, hc⟩ isSubtype_stop (wpAny_pure (hQ _ he')))
theorem enum_endS {P : Program} {w : World} {A : Around} {E : Value → Shared → Prop} {s : Shared} {e it : Addr} {c : Int} {z : Str} {t : Tok} {old : Value} {Q : Option Value → Shared → Prop} (hh : A.handled = none)
    (he : IsEnum s.heap e it c old) (hit : s.heap.IsStrIter it (strIterType z) z t z.cps.size) (hQ : ∀ h', Heap.ExtBut it s.heap h' → Q none { s with heap := h' }) : wpAny (model P w) A (pyNext (.ref e)) Q E s :=
  wpAny_pyNext_enum_endD (Draws.text (A := A.in1) (show A.in1.handled = none from hh) it z t) he hit hQ
open PySem.Spec PyProof.Rows L2
/-- the tuple at a, each item in a new pair -/
def ItnT (K : PySem.W.Frag) (a : Addr) : It :=
  ⟨fun i H => ∃ (xs : List V) (x : V), SqT K H a xs ∧ xs[i]? = some x, fun i H v H' => ∃ T x, v = .ref T ∧ H T = none ∧ H' = upd H T (.tup [.int (i : Nat), x]) ∧ ∀ xs, SqT K H a xs → xs[i]? = some x, fun i H => ∃ xs : List V, SqT K H a xs ∧ xs.length ≤ i⟩
/-- a text, each sign in a new pair -/
def ItnS (z : Str) : It :=
  ⟨fun i _ => i < z.cps.size, fun i H v H' => ∃ T c, v = .ref T ∧ H T = none ∧ H' = upd H T (.tup [.int (i : Nat), .str ⟨#[c]⟩]) ∧ z.cps[i]? = some c, fun i _ => i = z.cps.size⟩
theorem sqT_inj {X : Cx} {pins : List (Addr × Obj)} {σ : L2.St} {H : Hp} {s : Shared} (I : Inv X pins σ H s) {a : Addr} {xs ys : List V} (h1 : SqT X.K H a xs) (h2 : SqT X.K H a ys) : xs = ys := I.tuple_inj h1 h2
theorem turn_enumT {P : Program} {w : World} {K : PySem.W.Frag} {elts : List Expr} {kk : Nat} {tpos : Pos} (a e it : Addr) :
    Turn P w K (.Tuple elts kk tpos) (ItnT K a) [e, it] e (fun i h => (∃ old, IsEnum h e it ((i : Nat) : Int) old) ∧ h.IsTupleIter it a i ∧ e ≠ it) where
  mem := by simp
  obj := fun i h st b hb => by
    obtain ⟨⟨old, he⟩, ⟨o, ho, hc, hd⟩, _⟩ := st
    rcases (show b = e ∨ b = it by simpa using hb) with rfl | rfl
    · exact ⟨_, he, fun v q => nomatch q⟩
    · exact ⟨o, ho, fun v q => by rw [hd] at q; cases q⟩
  keep := fun i h h' st k => let ⟨⟨old, he⟩, hi, hne⟩ := st; ⟨⟨old, k e (by simp) _ he⟩, hi.at fun o q => k it (by simp) o q, hne⟩
  item := by
    intro X hP hw hK hc i pins s σ H E I hf st hg
    subst hP hw hK
    obtain ⟨⟨old, he⟩, hit, hne⟩ := st
    obtain ⟨xs, x, hq, hx⟩ := hg
    obtain ⟨its, rv, p, hz⟩ := I.tuple hq
    obtain ⟨u, hu, ru⟩ := rv.get hx
    have hel : e < s.heap.objs.size := Heap.lt_size he
    have hil : it < s.heap.objs.size := by obtain ⟨_, q, _⟩ := hit; exact Heap.lt_size q
    have hae : a ≠ it := fun q => by
      obtain ⟨o1, g1, c1, _⟩ := hit
      obtain ⟨o2, g2, c2, _⟩ := p
      rw [q, g1] at g2
      cases g2
      rw [c1] at c2
      injection c2 with c2
      exact absurd c2 (by decide)
    have haE : a ≠ e := fun q => by
      obtain ⟨o2, g2, c2, _⟩ := p
      rw [q, show s.heap.get? e = some _ from he] at g2
      cases g2
      injection c2 with c2
      exact absurd c2 (by decide)
    have hsz : i < its.toArray.size := by simpa using (List.getElem?_eq_some_iff.mp hu).1
    refine wpAny_pyNext_enum_itemD (Draws.tuple (A := X.A.in1) (show X.A.in1.handled = none from I.ok.hd hc) it a hae its.toArray) he ⟨hit, p⟩ hsz hne (by simp [hne, haE.symm]) fun y h' tk hy ho hst hT hsz' hk => ?_
    obtain rfl : u = y := by
      have e1 : its.toArray[i]? = some u := by simpa using hu
      rw [e1] at hy; exact Option.some.inj hy
    refine ⟨_, rfl, wpAny_letOwnedTupleGo_enum (s := { s with heap := h', toks := tk + 1 }) ho fun h'' he' sb => ?_⟩
    have hT2 : h''.get? s.heap.objs.size = some { cls := .type "tuple", data := .seq #[.int i tk, u] } := (sb.2 _ (Nat.ne_of_gt hel)).trans hT
    have new : ObjOk X.prog X.w (upd H s.heap.objs.size (.tup [.int (i : Nat), x])) h'' s.heap.objs.size (.tup [.int (i : Nat), x]) :=
      ⟨by show 2 ≤ sizeLine; decide, [.int i tk, u], .cons ⟨_, rfl⟩ (.cons ru .nil), ⟨_, hT2, rfl, _, rfl⟩⟩
    refine ⟨.ref s.heap.objs.size, _, I.turnedNew (t' := tk + 1) (ch := [e, it]) (fun b ob hb q => (sb.2 b (fun z => hb (by simp [z]))).trans (hk b ob (fun z => hb (by simp [z])) (fun z => hb (by simp [z])) q)) hf (Nat.le_refl _) new,
      rfl, ⟨_, x, rfl, I.hok.fresh (Nat.le_refl _), rfl, fun ys hy => by rw [sqT_inj I hy hq]; exact hx⟩, ⟨⟨u, ?_⟩, hst.1.at fun o q => (sb.2 it (Ne.symm hne)).trans q, hne⟩, fun b hb => ?_⟩
    · rw [show ((i + 1 : Nat) : Int) = (i : Int) + 1 by omega]; exact he'
    · have hb' : b < s.heap.objs.size := by
        rcases (show b = e ∨ b = it by simpa using hb) with z | z
        · rw [z]; exact hel
        · rw [z]; exact hil
      rw [upd_ne (Nat.ne_of_lt hb')]
      exact (hf b hb).1
  done := by
    intro X hP hw hK hc i pins s σ H E I hf st hg
    subst hP hw hK
    obtain ⟨⟨old, he⟩, hit, hne⟩ := st
    obtain ⟨xs, hq, hx⟩ := hg
    obtain ⟨its, rv, p, hz⟩ := I.tuple hq
    obtain ⟨f0, f1, f2, f3, f4, f5⟩ := hf it (by simp)
    have hl := rv.length
    exact enum_endT (I.ok.hd hc) he hit p (by simp; omega) fun h' eb => ⟨rfl, I.turned (t' := s.toks) (fun b o hb q => eb b o hb q) f0 f1 f3 f4 f5⟩
  self := fun A i s Q E st h => let ⟨⟨_, he⟩, _⟩ := st; wpAny_pyIter_enum he h
theorem turn_enumS {P : Program} {w : World} {K : PySem.W.Frag} {elts : List Expr} {kk : Nat} {tpos : Pos} (z : Str) (t : Tok) (e it : Addr) :
    Turn P w K (.Tuple elts kk tpos) (ItnS z) [e, it] e (fun i h => (∃ old, IsEnum h e it ((i : Nat) : Int) old) ∧ h.IsStrIter it (strIterType z) z t i ∧ e ≠ it) where
  mem := by simp
  obj := fun i h st b hb => by
    obtain ⟨⟨old, he⟩, ⟨o, ho, hc, hd⟩, _⟩ := st
    rcases (show b = e ∨ b = it by simpa using hb) with rfl | rfl
    · exact ⟨_, he, fun v q => nomatch q⟩
    · exact ⟨o, ho, fun v q => by rw [hd] at q; cases q⟩
  keep := fun i h h' st k => let ⟨⟨old, he⟩, hi, hne⟩ := st; ⟨⟨old, k e (by simp) _ he⟩, (let ⟨o, h1, h2, h3⟩ := hi; ⟨o, k it (by simp) _ h1, h2, h3⟩), hne⟩
  item := by
    intro X hP hw hK hc i pins s σ H E I hf st hg
    subst hP hw hK
    obtain ⟨⟨old, he⟩, hit, hne⟩ := st
    have hel : e < s.heap.objs.size := Heap.lt_size he
    have hil : it < s.heap.objs.size := by obtain ⟨_, q, _⟩ := hit; exact Heap.lt_size q
    refine wpAny_pyNext_enum_itemD (Draws.text (A := X.A.in1) (show X.A.in1.handled = none from I.ok.hd hc) it z t) he hit hg hne (by simp [hne]) fun y h' tk hy ho hst hT hsz' hk => ?_
    obtain ⟨c, u, hcu, rfl⟩ := hy
    refine ⟨_, rfl, wpAny_letOwnedTupleGo_enum (s := { s with heap := h', toks := tk + 1 }) ho fun h'' he' sb => ?_⟩
    have hT2 : h''.get? s.heap.objs.size = some { cls := .type "tuple", data := .seq #[.int i tk, .str ⟨#[c]⟩ u] } := (sb.2 _ (Nat.ne_of_gt hel)).trans hT
    have new : ObjOk X.prog X.w (upd H s.heap.objs.size (.tup [.int (i : Nat), .str ⟨#[c]⟩])) h'' s.heap.objs.size (.tup [.int (i : Nat), .str ⟨#[c]⟩]) :=
      ⟨by show 2 ≤ sizeLine; decide, [.int i tk, .str ⟨#[c]⟩ u], .cons ⟨_, rfl⟩ (.cons ⟨_, rfl⟩ .nil), ⟨_, hT2, rfl, _, rfl⟩⟩
    refine ⟨.ref s.heap.objs.size, _, I.turnedNew (t' := tk + 1) (ch := [e, it]) (fun b ob hb q => (sb.2 b (fun z => hb (by simp [z]))).trans (hk b ob (fun z => hb (by simp [z])) (fun z => hb (by simp [z])) q)) hf (Nat.le_refl _) new,
      rfl, ⟨_, c, rfl, I.hok.fresh (Nat.le_refl _), rfl, hcu⟩, ⟨⟨.str ⟨#[c]⟩ u, ?_⟩, ?_, hne⟩, fun b hb => ?_⟩
    · rw [show ((i + 1 : Nat) : Int) = (i : Int) + 1 by omega]; exact he'
    · obtain ⟨o, h1, h2, h3⟩ := hst
      exact ⟨o, (sb.2 it (Ne.symm hne)).trans h1, h2, h3⟩
    · have hb' : b < s.heap.objs.size := by
        rcases (show b = e ∨ b = it by simpa using hb) with z | z
        · rw [z]; exact hel
        · rw [z]; exact hil
      rw [upd_ne (Nat.ne_of_lt hb')]
      exact (hf b hb).1
  done := by
    intro X hP hw hK hc i pins s σ H E I hf st hg
    subst hP hw hK
    obtain ⟨⟨old, he⟩, hit, hne⟩ := st
    obtain ⟨f0, f1, f2, f3, f4, f5⟩ := hf it (by simp)
    obtain rfl : i = z.cps.size := hg
    exact enum_endS (I.ok.hd hc) he hit fun h' eb => ⟨rfl, I.turned (t' := s.toks) (fun b o hb q => eb b o hb q) f0 f1 f3 f4 f5⟩
  self := fun A i s Q E st h => let ⟨⟨_, he⟩, _⟩ := st; wpAny_pyIter_enum he h
def iEnA (K : PySem.W.Frag) (ta : TA) : TI := fun σ H R => ta σ H fun vs H1 => (∃ a xs, vs = [.ref a] ∧ SqL K H1 a xs ∧ R (Ite K a) H1) ∨ (∃ a xs, vs = [.ref a] ∧ SqT K H1 a xs ∧ R (ItnT K a) H1) ∨ ∃ z, vs = [.str z] ∧ R (ItnS z) H1
theorem pi_enA {X : Cx} {e : Expr} {ta : TA} {p pos tpos : Pos} {elts : List Expr} {kk : Nat} (hg : Gl X "enumerate") (hm : X.mg "enumerate" = none) (ha : PA X [e] ta) (hs : starEach [e] X.env = [(false, eval e X.env)]) :
    PI X (.Tuple elts kk tpos) (.Call (.Name "enumerate" p) [e] [] pos) (iEnA X.K ta) := by
  refine ⟨fun pins s σ H R I h => ?_⟩
  refine Call_ (ld_blt I hg hm boot_enumerate (PyProof.Rows.callWith_type1 (thn (ha.run pos pins s σ H _ I h) fun us s1 ⟨vs, H1, I1, r1, q1⟩ => ?_) hs rfl))
  have fp : ∀ (h' : Heap) (b : Addr), b ∈ [s1.heap.objs.size + 1, s1.heap.objs.size] → FpOk X pins H1 b := fun h' b hb => by
    have hle : s1.heap.objs.size ≤ b := by
      rcases (show b = s1.heap.objs.size + 1 ∨ b = s1.heap.objs.size by simpa using hb) with z | z
      · exact z ▸ Nat.le_succ _
      · exact z ▸ Nat.le_refl _
    exact I1.fpOk hle (I1.hok.fresh hle)
  rcases q1 with ⟨a, xs, rfl, hq, q⟩ | ⟨a, xs, rfl, hq, q⟩ | ⟨z, rfl, q⟩
  · obtain ⟨u, rfl, r⟩ := r1.one
    cases r
    obtain ⟨its, rv, p', hz⟩ := I1.list hq
    refine call_enumerate_list p'.isList fun h' he hit hsz hk => wpAny_pyIter_enum he ?_
    exact ⟨s1.heap.objs.size + 1, [s1.heap.objs.size + 1, s1.heap.objs.size], _, _, H1, rfl, I1.kept (t' := s1.toks) hk, turn_enum a (s1.heap.objs.size + 1) s1.heap.objs.size, ⟨⟨.none, he⟩, hit, Nat.succ_ne_self _⟩, fp h', q⟩
  · obtain ⟨u, rfl, r⟩ := r1.one
    cases r
    obtain ⟨its, rv, p', hz⟩ := I1.tuple hq
    refine enum1_begins (begins_tuple a its.toArray) p' fun h' he hit hsz hk => wpAny_pyIter_enum he ?_
    exact ⟨s1.heap.objs.size + 1, [s1.heap.objs.size + 1, s1.heap.objs.size], _, _, H1, rfl, I1.kept (t' := s1.toks) hk, turn_enumT a (s1.heap.objs.size + 1) s1.heap.objs.size, ⟨⟨.none, he⟩, ⟨_, hit, rfl, rfl⟩, Nat.succ_ne_self _⟩, fp h', q⟩
  · obtain ⟨u, rfl, r⟩ := r1.one
    obtain ⟨t, rfl⟩ := r
    refine enum1_begins (begins_text z t) trivial fun h' he hit hsz hk => wpAny_pyIter_enum he ?_
    exact ⟨s1.heap.objs.size + 1, [s1.heap.objs.size + 1, s1.heap.objs.size], _, _, H1, rfl, I1.kept (t' := s1.toks) hk, turn_enumS z t (s1.heap.objs.size + 1) s1.heap.objs.size, ⟨⟨.none, he⟩, ⟨_, hit, rfl, rfl⟩, Nat.succ_ne_self _⟩, fp h', q⟩
theorem drive_enT {C : Gho} {B0 H0 : Hp} {src : List Addr} {a : Addr} {vs : List V} {ds : List D} (hs : SqT C.K B0 a vs) (r : Reps C.K C.hv B0 vs ds) : Drive C B0 H0 src true (ItnT C.K a) (enumL ds) where
  go := fun i B H h1 h2 h3 hi => by
    have hi : i < ds.length := by simpa [enumL] using hi
    exact ⟨vs, vs[i]'(by rw [r.length]; exact hi), sqT_mono (h1.trans h2) hs, List.getElem?_eq_getElem _⟩
  yld := fun i B H x H' h1 h2 h3 hi y => by
    have hi : i < ds.length := by simpa [enumL] using hi
    obtain ⟨T, w, rfl, hT, rfl, y⟩ := y
    obtain ⟨d, h4, h5⟩ := r.getV (y _ (sqT_mono (h1.trans h2) hs))
    refine ⟨upd B T (.tup [.int (i : Nat), w]), .tup [.int i, d], ?_, Ext.allocB h2 hT, upd_stays hT, ⟨_, _, _, rfl, rfl, .inl (.inl upd_same), (.cons (.int _) (.cons (Rep.mono (h1.trans (same_adopt (h2.free hT))) _ _ h5) .nil))⟩⟩
    have h6 := (List.getElem?_eq_some_iff.mp h4).2
    simp [enumL, List.getElem?_zipWith, hi, h6]
  stop := fun B H h1 h2 h3 => ⟨vs, sqT_mono (h1.trans h2) hs, by rw [r.length]; simp [enumL]⟩
theorem drive_enS {C : Gho} {B0 H0 : Hp} {src : List Addr} (z : Str) : Drive C B0 H0 src true (ItnS z) (enumL (z.cps.toList.map fun c => .str ⟨#[c]⟩)) where
  go := fun i B H h1 h2 h3 hi => show i < z.cps.size by simpa [enumL] using hi
  yld := fun i B H x H' h1 h2 h3 hi y => by
    have hi : i < z.cps.size := by simpa [enumL] using hi
    obtain ⟨T, c, rfl, hT, rfl, hc⟩ := y
    refine ⟨upd B T (.tup [.int (i : Nat), .str ⟨#[c]⟩]), .tup [.int i, .str ⟨#[c]⟩], ?_, Ext.allocB h2 hT, upd_stays hT, ⟨_, _, _, rfl, rfl, .inl (.inl upd_same), (.cons (.int _) (.cons (.str _) .nil))⟩⟩
    have h6 := (Array.getElem?_eq_some_iff.mp hc).2
    simp [enumL, List.getElem?_zipWith, hi, h6]
  stop := fun B H h1 h2 h3 => show _ = z.cps.size by simp [enumL]
end PyI

set_option maxRecDepth 100000
/-! PyI, part J: ranges made lists and tuples, dict displays. -/
namespace PyI
open PySem PySem.Spec PyProof.Rows L2
variable {G : Gho → Prop}

theorem Ext.none_before {U : Addr → Prop} {B H B' H' : Hp} (x : Ext U B H B' H') {a : Addr} (h : H' a = none) : H a = none := by
  cases e : H a with
  | none => rfl
  | some o =>
    by_cases hu : U a
    · exact absurd h (x.uk a hu (by rw [e]; exact fun z => nomatch z))
    · rw [x.keep a o e hu] at h; cases h
/-- an object that was not there at first is changed -/
theorem Ext.poke {U : Addr → Prop} {B H B' H' : Hp} (x : Ext U B H B' H') {p : Addr} {o : HO} (hp : H p = none) (hb : B' p = none) : Ext U B H B' (upd H' p o) where
  b := x.b
  s := fun a u h => by
    have : a ≠ p := fun e => by subst e; rw [hb] at h; cases h
    rw [upd_ne this]; exact x.s a u h
  new := x.new
  keep := fun a u h hu => by
    have : a ≠ p := fun e => by subst e; rw [hp] at h; cases h
    rw [upd_ne this]; exact x.keep a u h hu
  uk := fun a hu h => by
    have : a ≠ p := fun e => by subst e; exact h hp
    rw [upd_ne this]; exact x.uk a hu h
theorem Gho.stayP (C : Gho) {γ : D} {H : Hp} {p : Addr} {o : HO} (h : C.rep γ H) (hp : ¬ C.U p) : C.rep γ (upd H p o) :=
  C.stay γ H _ h fun a hu => upd_ne fun e => hp (e ▸ hu)
theorem Ext.stillNone {U : Addr → Prop} {B H B' H' : Hp} (x : Ext U B H B' H') {l : Addr} (hb : B l = none) (hh : H l ≠ none) : B' l = none := by
  cases e : B' l with
  | none => rfl
  | some u =>
    rcases x.new l u e with q | ⟨_, q⟩
    · rw [hb] at q; cases q
    · exact absurd q hh
section
variable {X : Cx} {N : List Str} {sc : Scope} {k : Nat} {C : Gho} {W : WX} {H0 : Hp} {pos : Pos}
theorem rg_reps {K : PySem.W.Frag} {hv : Nat → V} {B : Hp} (lo hi : Int) : Reps K hv B (rgV lo hi) (rngL lo (hi - lo).toNat) := by
  unfold rgV rngL
  generalize List.range (hi - lo).toNat = l
  induction l with
  | nil => exact .nil
  | cons x l ih => exact .cons (.int _) ih
theorem rngL_length (lo : Int) (n : Nat) : (rngL lo n).length = n := by unfold rngL; rw [List.length_map, List.length_range]
/-- tuple(range(..)), list(range(..)) -/
theorem cv_fin {f : BI} {B H : Hp} {γ z : D} {Q : VK} {lo hi : Int} (hf : f = .tuple ∨ f = .list) (s : Same B H) (g : C.rep γ H) (hz : cvF f (rngL lo (hi - lo).toNat) = some z) (h : Done C B H γ .fresh z Q) (h1 : inBd lo = true) (h2 : inBd hi = true) :
    RgOk lo hi ∧ (f = .tuple → Fz Q H (rgV lo hi)) ∧ (f = .list → ∀ q, H q = none → Q (.ref q) (upd H q (.lst (rgV lo hi)))) := by
  unfold cvF at hz
  split at hz
  rotate_left
  · cases hz
  rename_i hl
  rw [rngL_length, sizeLine_eq] at hl
  obtain ⟨a1, a2⟩ := bd_of h1
  obtain ⟨b1, b2⟩ := bd_of h2
  refine ⟨⟨a1, a2, b1, b2, by omega⟩, fun e => ?_, fun e => ?_⟩
  · subst e; cases hz
    exact h.newT s g (rg_reps _ _)
  · subst e; cases hz
    exact h.newL s g (rg_reps _ _)
theorem c_cv1 {f : BI} {a : E} {x : Expr} {p p2 pos2 : Pos} (ok : XOk G X N sc k C) (hcm : calmB sc = true) (hf : f = .tuple ∨ f = .list) (hg : glB sc f.name = true) (hr : glB sc "range" = true) (hs : notStar x = true) (ha : PE X x (tE C X.mg H0 W a)) :
    PE X (.Call (.Name f.name p) [.Call (.Name "range" p2) [x] [] pos2] [] pos) (tE C X.mg H0 W (.cv f (.rng1 a))) := by
  refine ⟨fun pins s σ H Q I hq => ?_⟩
  obtain ⟨B, ρ, γ, S, hq⟩ := hq
  rw [ev, evI] at hq
  have core : ∀ R : Int → Int → Hp → Prop, (∀ j H1, RgOk 0 j → (f = .tuple → Fz Q H1 (rgV 0 j)) → (f = .list → ∀ q, H1 q = none → Q (.ref q) (upd H1 q (.lst (rgV 0 j)))) → R 0 j H1) → tRg1 (tE C X.mg H0 W a) σ H R := by
    intro R imp
    refine ⟨B, ρ, γ, S, hq.bind.bind.imp fun d g h1 v B1 H1 x1 g1 r1 => ?_⟩
    cases d <;> first | exact False.elim h1 | skip
    rename_i j
    obtain rfl := (r1.b S.gh).int
    by_cases hj : inBd j = true
    · simp only [if_pos hj] at h1
      obtain ⟨z, hz, h2⟩ := Fin.opt h1
      have e : j.toNat = (j - 0).toNat := by omega
      rw [e] at hz
      obtain ⟨f1, f2, f3⟩ := cv_fin hf x1.s g1 hz (h2.ext x1) (by decide) hj
      exact ⟨j, rfl, imp j H1 f1 f2 f3⟩
    · simp only [if_neg hj] at h1
      exact False.elim h1
  have nm := ok.gl hg
  have rg : PRg X (.Call (.Name "range" p2) [x] [] pos2) (tRg1 (tE C X.mg H0 W a)) := prg_1 (ok.gl hr).1 (ok.bt _ (by decide +kernel)) ha (starEach_cons hs)
  rcases hf with rfl | rfl
  · exact (peF_tupRg (ok.calm hcm) nm.1 (ok.bt _ (by decide +kernel)) rg (starEach_cons rfl)).run pins s σ H Q I (core _ fun j H1 a b _ => ⟨a, b rfl⟩)
  · exact (pe_listRg (ok.calm hcm) nm.1 (ok.bt _ (by decide +kernel)) rg (starEach_cons rfl)).run pins s σ H Q I (core _ fun j H1 a _ b => ⟨a, b rfl⟩)
theorem c_cv2 {f : BI} {a b : E} {x y : Expr} {p p2 pos2 : Pos} (ok : XOk G X N sc k C) (hcm : calmB sc = true) (hf : f = .tuple ∨ f = .list) (hg : glB sc f.name = true) (hr : glB sc "range" = true) (hs : notStar x = true) (hs2 : notStar y = true) (ha : PE X x (tE C X.mg H0 W a)) (hb : PE X y (tE C X.mg H0 W b)) :
    PE X (.Call (.Name f.name p) [.Call (.Name "range" p2) [x, y] [] pos2] [] pos) (tE C X.mg H0 W (.cv f (.rng2 a b))) := by
  refine ⟨fun pins s σ H Q I hq => ?_⟩
  obtain ⟨B, ρ, γ, S, hq⟩ := hq
  rw [ev, evI] at hq
  have core : ∀ R : Int → Int → Hp → Prop, (∀ i j H1, RgOk i j → (f = .tuple → Fz Q H1 (rgV i j)) → (f = .list → ∀ q, H1 q = none → Q (.ref q) (upd H1 q (.lst (rgV i j)))) → R i j H1) → tRg2 (tE C X.mg H0 W a) (tE C X.mg H0 W b) σ H R := by
    intro R imp
    refine ⟨B, ρ, γ, S, hq.bind.bind.imp fun d g h1 v B1 H1 x1 g1 r1 => ?_⟩
    refine ⟨B1, ρ, g, S.ext x1 g1, (h1.ext x1).bind.imp fun d2 g2 h2 v2 B2 H2 x2 g2' r2 => ?_⟩
    cases d <;> first | exact False.elim h2 | skip
    cases d2 <;> first | exact False.elim h2 | skip
    rename_i i j
    obtain rfl := (r1.b S.gh).int
    obtain rfl := (r2.b (S.ext x1 g1).gh).int
    by_cases hj : (inBd i && inBd j) = true
    · simp only [if_pos hj] at h2
      obtain ⟨z, hz, h3⟩ := Fin.opt h2
      rw [Bool.and_eq_true] at hj
      have h3 : Done C B2 H2 g2 .fresh z Q := Done.ext h3 (x1.trans x2)
      obtain ⟨f1, f2, f3⟩ := cv_fin hf x2.s g2' hz h3 hj.1 hj.2
      exact ⟨i, j, rfl, rfl, imp i j H2 f1 f2 f3⟩
    · simp only [if_neg hj] at h2
      exact False.elim h2
  have nm := ok.gl hg
  have rg : PRg X (.Call (.Name "range" p2) [x, y] [] pos2) (tRg2 (tE C X.mg H0 W a) (tE C X.mg H0 W b)) := prg_2 (ok.gl hr).1 (ok.bt _ (by decide +kernel)) ha hb (starEach_cons hs) (starEach_cons hs2) (by rw [starEach_cons hs2]; rfl)
  rcases hf with rfl | rfl
  · exact (peF_tupRg (ok.calm hcm) nm.1 (ok.bt _ (by decide +kernel)) rg (starEach_cons rfl)).run pins s σ H Q I (core _ fun i j H1 a b _ => ⟨a, b rfl⟩)
  · exact (pe_listRg (ok.calm hcm) nm.1 (ok.bt _ (by decide +kernel)) rg (starEach_cons rfl)).run pins s σ H Q I (core _ fun i j H1 a _ b => ⟨a, b rfl⟩)

/-! ### dict displays -/
def trsOf (C : Gho) (mg : Str → Option Value) (H0 : Hp) (W : WX) : List Cn → List E → List (TE × TE)
  | k :: ks, e :: es => (tE C mg H0 W (.c k), tE C mg H0 W e) :: trsOf C mg H0 W ks es
  | _, _ => []
def cnV : Cn → V
  | .int i => .int i
  | .str x => .str x
  | .bl b => .bl b
  | .non => .non
theorem cn_rep {q : Cn} {B : Hp} {v : V} {K : PySem.W.Frag} {hv : Nat → V} (r : Rep K hv B v q.d) : v = cnV q := by
  cases q <;> (cases r; rfl)
theorem cn_flat {q : Cn} {B H1 H : Hp} {v : V} (r : RepF C H B H1 v q.d) : v = cnV q := by
  cases q <;> (cases r; rfl)
theorem pairs_run {mg : Str → Option Value} : ∀ {ks : List Cn} {es : List E} {B : Hp} {ρ : Rho} {γ : D} {σ : L2.St} {H : Hp} {Q : List (V × V) → Hp → Prop}, ks.length = es.length → noB (kds es) = true → St C H0 B σ H ρ γ →
    Fin C mg W B σ H (evs es ρ γ) (fun ds g => ∀ vs B' H', Ext C.U B H B' H' → C.rep g H' → Reps C.K C.hv B' vs ds → Q ((ks.map cnV).zip vs) H') → tPairs (trsOf C mg H0 W ks es) σ H Q
  | [], [], B, ρ, γ, σ, H, Q, _, _, S, hq => by
    rw [evs] at hq
    exact hq [] B H (Ext.refl S.sub) S.gh .nil
  | k :: ks, e :: es, B, ρ, γ, σ, H, Q, hl, hk, S, hq => by
    obtain ⟨b1, b2⟩ := noB_cons hk
    show tE C mg H0 W (.c k) σ H fun x H1 => tE C mg H0 W e σ H1 fun y H2 => tPairs (trsOf C mg H0 W ks es) σ H2 fun ps H3 => Q ((x, y) :: ps) H3
    refine ⟨B, ρ, γ, S, ?_⟩
    rw [ev]
    intro v B1 H1 x1 g1 r1
    obtain rfl := cn_flat r1
    rw [evs] at hq
    refine ⟨B1, ρ, γ, S.ext x1 g1, (hq.ext x1).bind.imp fun d g h2 => Done.le (k := .clean) b1 fun v2 B2 H2 x2 g2 r2 => ?_⟩
    refine pairs_run (by simpa using hl) b2 ((S.ext x1 g1).ext x2 g2) ((h2.ext x2).bind.imp fun ds g3 h3 vs B3 H3 x3 g3' r3 => ?_)
    exact h3 (v2 :: vs) B3 H3 ((x1.trans x2).trans x3) g3' (.cons (Rep.mono x3.b _ _ r2) r3)
  | [], _ :: _, _, _, _, _, _, _, hl, _, _, _ => by simp at hl
  | _ :: _, [], _, _, _, _, _, _, hl, _, _, _ => by simp at hl
theorem pairsF_rep {K : PySem.W.Frag} {hv : Nat → V} {B : Hp} : ∀ {ks : List Cn} {vs : List V} {ds : List D} {kvs : List (L2.Key × D)}, Reps K hv B vs ds → pairsF ks ds = some kvs →
    ∃ us : List (L2.Key × V), (ks.map cnV).zip vs = us.map (fun kv => (kV kv.1, kv.2)) ∧ us.length = ks.length ∧ RepKv K hv B us kvs
  | [], _, [], kvs, .nil, h => by cases h; exact ⟨[], rfl, rfl, .nil⟩
  | k :: ks, _, _ :: _, kvs, .cons (v := v) r t, h => by
    rw [pairsF] at h
    cases e : keyOf k.d with
    | none => rw [e] at h; cases h
    | some q =>
      rw [e] at h
      obtain ⟨l, e2, rfl⟩ := Option.map_eq_some_iff.mp h
      obtain ⟨us, u1, u2, u3⟩ := pairsF_rep t e2
      refine ⟨(q, v) :: us, ?_, by simp [u2], .cons r u3⟩
      have : cnV k = kV q := by cases k <;> cases e <;> rfl
      simp only [List.map_cons, List.zip_cons_cons, u1, this]
  | [], _, _ :: _, _, _, h => by cases h
  | _ :: _, _, [], _, _, h => by cases h
theorem merge_rep {K : PySem.W.Frag} {hv : Nat → V} {B : Hp} : ∀ {us : List (L2.Key × V)} {kvs : List (L2.Key × D)} {a : List (L2.Key × V)} {b : List (L2.Key × D)}, RepKv K hv B us kvs → RepKv K hv B a b → RepKv K hv B (mergeK a us) (kvs.foldl (fun acc kv => putD acc kv.1 kv.2) b)
  | [], [], a, b, _, h => h
  | (k, v) :: us, (_, d) :: kvs, a, b, .cons r t, h => by
    show RepKv K hv B (mergeK (putK a k v) us) (kvs.foldl (fun acc kv => putD acc kv.1 kv.2) (putD b k d))
    exact merge_rep t (RepKv.put r h)
theorem mKs_all : ∀ {ks : List Cn} {keys : List (Option Expr)}, mKs ks keys = true → ks.length = keys.length ∧ keys.all (·.isSome) = true
  | [], [], _ => ⟨rfl, rfl⟩
  | k :: ks, x :: xs, h => by
    match x, h with
    | some (.Constant c _ _), h =>
      rw [mKs, Bool.and_eq_true] at h
      obtain ⟨h1, h2⟩ := mKs_all h.2
      exact ⟨by simp [h1], by simpa using h2⟩
  | [], _ :: _, h => by cases h
  | _ :: _, [], h => by cases h
theorem c_dct {ks : List Cn} {es : List E} {keys : List (Option Expr)} {xs : List Expr} (hm : mKs ks keys = true) (hl : es.length = xs.length) (hk : noB (kds es) = true) (h15 : keys.length ≤ 15) (hl2 : keys.length = xs.length) (hp : PPs X pos keys xs (trsOf C X.mg H0 W ks es)) :
    PE X (.Dict keys xs pos) (tE C X.mg H0 W (.dct ks es)) := by
  obtain ⟨m1, m2⟩ := mKs_all hm
  refine ⟨fun pins s σ H Q I hq => ?_⟩
  obtain ⟨B, ρ, γ, S, hq⟩ := hq
  rw [ev] at hq
  have hb := hq.bind
  by_cases h0 : keys = []
  · subst h0
    cases xs with
    | cons _ _ => simp at hl2
    | nil =>
      cases es with
      | cons _ _ => simp at hl
      | nil =>
        cases ks with
        | cons _ _ => simp at m1
        | nil =>
          rw [evs] at hb
          have hb : Done C B H γ .fresh (.dic []) Q := hb
          refine pe_dnewK.run pins s σ H Q I fun p hp0 => ?_
          exact hb _ B _ (Ext.alloc S.sub hp0) (C.stayE S.gh hp0) ⟨p, [], rfl, hp0, S.sub.free hp0, upd_same, .nil⟩
  · refine (pe_disp hp m2 hl2 h0 h15).run pins s σ H Q I fun p hp0 => ?_
    have x0 : Ext C.U B H B (upd H p (.dK [])) := Ext.alloc S.sub hp0
    have hu : ¬ C.U p := fun u => C.has _ _ _ S.gh u hp0
    refine pairs_run (by rw [m1, hl2, hl]) hk (S.ext x0 (C.stayE S.gh hp0)) ((hb.ext x0).imp fun ds g h1 vs B1 H1 x1 g1 r1 => ?_)
    obtain ⟨z, hz, h2⟩ := Fin.opt h1
    obtain ⟨kvs, e1, rfl⟩ := Option.map_eq_some_iff.mp hz
    obtain ⟨us, u1, u2, u3⟩ := pairsF_rep r1 e1
    have hp1 : H1 p = some (.dK []) := x1.keep _ _ upd_same hu
    have hb1 : B1 p = none := x1.stillNone (S.sub.free hp0) (by rw [upd_same]; exact fun z => nomatch z)
    refine ⟨hp1, us, u1, by rw [u2, m1]; exact h15, ?_⟩
    have h2 : Done C B H g .fresh _ Q := h2
    exact h2 _ B1 _ ((x0.trans x1).poke hp0 hb1) (C.stayP g1 hu) ⟨p, _, rfl, hp0, hb1, upd_same, merge_rep u3 .nil⟩
end
end PyI

set_option maxRecDepth 100000
/-! PyI, part K: comprehensions; all expressions. -/
namespace PyI
open PySem PySem.Spec PyProof.Rows L2
variable {G : Gho → Prop}

section
variable {X : Cx} {N : List Str} {sc : Scope} {k : Nat} {C : Gho} {W : WX} {H0 : Hp} {pos : Pos}
theorem i_enum {a : E} {x : Expr} {p tp : Pos} {elts : List Expr} {kk : Nat} (ok : XOk G X N sc k C) (hg : glB sc "enumerate" = true) (hs : notStar x = true) (ha : PE X x (tE C X.mg H0 W a)) :
    PI X (.Tuple elts kk tp) (.Call (.Name "enumerate" p) [x] [] pos) (tI C X.mg H0 W (.enum a)) := by
  refine ⟨fun pins s σ H R I hq => ?_⟩
  obtain ⟨B, ρ, γ, S, hq⟩ := hq
  rw [evI] at hq
  have e1 : starEach [x] X.env = [(false, eval x X.env)] := starEach_cons hs
  refine (pi_enA (ok.gl hg).1 (ok.bt _ (by decide +kernel)) (pa_cons ha pa_nil e1) e1).run pins s σ H R I ⟨B, ρ, γ, S, hq.bind.imp fun d g h1 v B1 H1 x1 g1 r1 => ?_⟩
  cases d <;> first | exact h1.elim | skip
  case str z =>
    have r2 := (r1.b S.gh).str
    subst r2
    exact .inr (.inr ⟨z, rfl, h1 _ B1 H1 [] x1 g1 (by show kSrc (kd a) []; cases kd a <;> first | rfl | trivial) (fun _ hb => nomatch hb) (drive_enS z)⟩)
  case tup xs =>
    obtain ⟨a, vs, rfl, h3, h4, h5⟩ := (r1.b S.gh).tup x1.s
    exact .inr (.inl ⟨a, vs, rfl, by rw [← ok.hK]; exact h4, by rw [← ok.hK]; exact h1 _ B1 H1 [] x1 g1 kSrc_nil (fun _ hb => nomatch hb) (drive_enT h3.t h5)⟩)
  obtain ⟨l, vs, B2, src, rfl, h3, x2, m, r2, ks, hs, sq⟩ := src_of S.gh x1 r1
  exact .inl ⟨l, vs, rfl, SqL.of h3, by rw [← ok.hK]; exact h1 _ B2 H1 src x2 g1 ks hs (drive_enum sq r2)⟩
theorem kSrc_worse {a b : Kd} {s t : List Addr} (h1 : kSrc a s) (h2 : kSrc b t) : kSrc (a.worse b) (s ++ t) := by
  cases a <;> cases b <;> first
    | trivial
    | (cases (show s = [] from h1); cases (show t = [] from h2); rfl)
/-- as it is asked for where it stays where it is -/
def Kd.stay : Kd → Kd
  | .borrow => .borrow
  | _ => .clean
theorem le_stay {k : Kd} : k.le k.stay = true := by cases k <;> rfl
theorem src_stay {B1 H1 : Hp} {H : Hp} {k : Kd} {v : V} {xs : List D} (sm : Same B1 H1) (r : RV C k.stay H B1 H1 v (.lst xs)) :
    ∃ a vs src, v = .ref a ∧ H1 a = some (.lst vs) ∧ Reps C.K C.hv B1 vs xs ∧ kSrc k src ∧ (∀ b ∈ src, H1 b ≠ none ∧ ¬ C.U b) ∧ ∀ B3 H3, Same B1 B3 → Same B3 H3 → (∀ b ∈ src, H3 b = H1 b) → SqL C.K H3 a vs := by
  have val : Rep C.K C.hv B1 v (.lst xs) → ∃ a vs src, v = .ref a ∧ H1 a = some (.lst vs) ∧ Reps C.K C.hv B1 vs xs ∧ kSrc k src ∧ (∀ b ∈ src, H1 b ≠ none ∧ ¬ C.U b) ∧ ∀ B3 H3, Same B1 B3 → Same B3 H3 → (∀ b ∈ src, H3 b = H1 b) → SqL C.K H3 a vs := by
    intro r
    cases r with
    | lst ha ra => exact ⟨_, _, [], rfl, sm _ _ ha, ra, by cases k <;> first | rfl | trivial, fun b hb => (nomatch hb), fun B3 H3 h1 h2 _ => SqL.of (h2 _ _ (h1 _ _ ha))⟩
  cases k with
  | borrow =>
    rcases r with r | ⟨l, vs, ys, h1, h2, h3, h4, h5⟩ | ⟨_, _, _, _, h2, _⟩
    · exact val r
    · cases h2
      exact ⟨l, vs, [l], h1, h3, h5, trivial, fun b hb => by rw [List.mem_singleton.mp hb]; exact ⟨by rw [h3]; exact fun z => (nomatch z), h4⟩, fun B3 H3 _ _ h => SqL.of (by rw [h l (List.mem_singleton.mpr rfl)]; exact h3)⟩
    · cases h2
  | clean => exact val r
  | fresh => exact val r
theorem stay_b {k : Kd} {H B1 H1 : Hp} {γ : D} {v : V} {d : D} (gh : C.rep γ H) (r : RV C k.stay H B1 H1 v d) : RepB C B1 H1 v d := r.b gh
theorem i_zip {a b : E} {x y : Expr} {p tp : Pos} {elts : List Expr} {kk : Nat} (ok : XOk G X N sc k C) (hg : glB sc "zip" = true) (hs : notStar x = true) (hs' : notStar y = true) (ha : PE X x (tE C X.mg H0 W a)) (hb : PE X y (tE C X.mg H0 W b)) :
    PI X (.Tuple elts kk tp) (.Call (.Name "zip" p) [x, y] [] pos) (tI C X.mg H0 W (.zip a b)) := by
  refine ⟨fun pins s σ H R I hq => ?_⟩
  obtain ⟨B, ρ, γ, S, hq⟩ := hq
  rw [evI] at hq
  have e2 : starEach [y] X.env = [(false, eval y X.env)] := starEach_cons hs'
  have e1 : starEach [x, y] X.env = (false, eval x X.env) :: starEach [y] X.env := starEach_cons hs
  refine (RZ.pi_zipA (ok.gl hg).1 (ok.bt _ (by decide +kernel)) (pa_cons ha (pa_cons hb pa_nil e2) e1) e1 (by rw [e2]; rfl)).run pins s σ H R I ⟨B, ρ, γ, S, hq.bind.imp fun d g h1 => Done.le le_stay fun v B1 H1 x1 g1 r1 => ?_⟩
  have S1 := S.ext x1 g1
  refine ⟨B1, ρ, g, S1, (h1.ext x1).bind.imp fun e g2 h2 => Done.le le_stay fun w B2 H2 x2 g2' r2 => ?_⟩
  cases d <;> cases e <;> first | exact h2.elim | skip
  · obtain ⟨l1, vs, rfl, q1, q2, q3⟩ := ((stay_b S.gh r1).mono x2).tup x2.s
    obtain ⟨l2, ws, rfl, q4, q5, q6⟩ := (stay_b S1.gh r2).tup x2.s
    exact ⟨l1, l2, vs, ws, rfl, .inr ⟨ok.hK ▸ q2, ok.hK ▸ q5, by rw [← ok.hK]; exact h2 _ B2 H2 [] (x1.trans x2) g2' kSrc_nil (fun _ hb => (nomatch hb)) (drive_zipT q1.t q4.t q3 q6)⟩⟩
  · obtain ⟨l1, vs, s1, rfl, p1, p2, p3, p4, p5⟩ := src_stay x1.s r1
    obtain ⟨l2, ws, s2, rfl, q1, q2, q3, q4, q5⟩ := src_stay x2.s r2
    have st : ∀ b ∈ s1, H2 b = H1 b := by
      intro b hb
      obtain ⟨n1, n2⟩ := p4 b hb
      cases e : H1 b with
      | none => exact absurd e n1
      | some o => exact x2.keep b o e n2
    have a1 : ∀ B H, Same B2 B → Same B H → (∀ a ∈ s1 ++ s2, H a = H2 a) → SqL C.K H l1 vs := fun B H m1 m2 hs => p5 B H (x2.b.trans m1) m2 fun b hb => by rw [hs b (List.mem_append_left _ hb), st b hb]
    have a2 : ∀ B H, Same B2 B → Same B H → (∀ a ∈ s1 ++ s2, H a = H2 a) → SqL C.K H l2 ws := fun B H m1 m2 hs => q5 B H m1 m2 fun b hb => hs b (List.mem_append_right _ hb)
    refine ⟨l1, l2, vs, ws, rfl, .inl ⟨ok.hK ▸ a1 B2 H2 (Same.refl _) x2.s fun _ _ => rfl, SqL.of q1, ?_⟩⟩
    rw [← ok.hK]
    refine h2 _ B2 H2 (s1 ++ s2) (x1.trans x2) g2' (kSrc_worse p3 q3) ?_ (drive_zip a1 a2 (Reps.mono x2.b _ _ p2) q2)
    intro b hb
    rcases List.mem_append.mp hb with hb | hb
    · rw [st b hb]; exact p4 b hb
    · exact q4 b hb
theorem i_rev {a : E} {tg x : Expr} {p : Pos} (ok : XOk G X N sc k C) (hg : glB sc "reversed" = true) (hs : notStar x = true) (ha : PE X x (tE C X.mg H0 W a)) : PI X tg (.Call (.Name "reversed" p) [x] [] pos) (tI C X.mg H0 W (.rev a)) := by
  refine ⟨fun pins s σ H R I hq => ?_⟩
  obtain ⟨B, ρ, γ, S, hq⟩ := hq
  rw [evI] at hq
  refine (RT.pi_revA (ok.gl hg).1 (ok.bt _ (by decide +kernel)) ha (starEach_cons hs)).run pins s σ H R I ⟨B, ρ, γ, S, hq.bind.imp fun d g h1 v B1 H1 x1 g1 r1 => ?_⟩
  cases d <;> first | exact h1.elim | skip
  · obtain ⟨l1, vs, rfl, q1, q2, q3⟩ := (r1.b S.gh).tup x1.s
    exact ⟨l1, vs, rfl, .inr ⟨ok.hK ▸ q2, by rw [← ok.hK]; exact h1 _ B1 H1 [] x1 g1 kSrc_nil (fun _ hb => (nomatch hb)) (drive_revT q1.t q3)⟩⟩
  · obtain ⟨l1, vs, B3, s1, rfl, q1, q2, q3, q4, q5, q6, q7⟩ := src_of S.gh x1 r1
    exact ⟨l1, vs, rfl, .inl ⟨SqL.of q1, by rw [← ok.hK]; exact h1 _ B3 H1 s1 q2 g1 q5 q6 (drive_rev q7 q4)⟩⟩

/-! ### targets, slots -/
theorem get_set {α : Type} {xs : List α} {i j : Nat} {x y : α} (h : (xs.set i x)[j]? = some y) : (i = j ∧ j < xs.length ∧ y = x) ∨ (i ≠ j ∧ xs[j]? = some y) := by
  by_cases e : i = j
  · subst e
    have hl : i < xs.length := by
      by_cases hl : i < xs.length
      · exact hl
      · rw [List.getElem?_eq_none (by simpa using Nat.le_of_not_lt hl)] at h; cases h
    rw [List.getElem?_set_self hl] at h
    exact .inl ⟨rfl, hl, (Option.some.inj h).symm⟩
  · rw [List.getElem?_set_ne e] at h
    exact .inr ⟨e, h⟩
theorem set_other {α : Type} {xs : List α} {i j : Nat} {x : α} (h : i ≠ j) : (xs.set i x)[j]? = xs[j]? := List.getElem?_set_ne h
theorem St.set {B H : Hp} {σ : L2.St} {ρ : Rho} {γ d : D} {v : V} (S : St C H0 B σ H ρ γ) (i : Nat) (r : Rep C.K C.hv B v d) : St C H0 B (σ.set i (some v)) H (ρ.set i (.val d)) γ where
  sub := S.sub
  uB := S.uB
  gh := S.gh
  len := by rw [List.length_set, List.length_set, S.len]
  val := fun j e h => by
    rcases get_set h with ⟨rfl, h1, h2⟩ | ⟨h1, h2⟩
    · cases h2
      exact ⟨v, by rw [List.getElem?_set_self (by rw [S.len]; exact h1)], r⟩
    · rw [set_other h1]; exact S.val j e h2
  ol := fun j e h => by
    rcases get_set h with ⟨rfl, h1, h2⟩ | ⟨h1, h2⟩
    · cases h2
    · rw [set_other h1]; exact S.ol j e h2
  od := fun j e h => by
    rcases get_set h with ⟨rfl, h1, h2⟩ | ⟨h1, h2⟩
    · cases h2
    · rw [set_other h1]; exact S.od j e h2
  er := fun j L c fs h => by
    rcases get_set h with ⟨rfl, h1, h2⟩ | ⟨h1, h2⟩
    · cases h2
    · rw [set_other h1]; exact S.er j L c fs h2
  apart := fun a b s t l h1 h2 h3 h4 h5 h6 => by
    rcases get_set h1 with ⟨rfl, _, q⟩ | ⟨n1, q1⟩
    · subst q; cases h3
    · rcases get_set h2 with ⟨rfl, _, q⟩ | ⟨n2, q2⟩
      · subst q; cases h4
      · rw [set_other n1] at h5
        rw [set_other n2] at h6
        exact S.apart a b s t l q1 q2 h3 h4 h5 h6
theorem St.un {B H : Hp} {σ : L2.St} {ρ : Rho} {γ : D} (S : St C H0 B σ H ρ γ) (i : Nat) (o : Option V) : St C H0 B (σ.set i o) H (ρ.set i .un) γ where
  sub := S.sub
  uB := S.uB
  gh := S.gh
  len := by rw [List.length_set, List.length_set, S.len]
  val := fun j e h => by
    rcases get_set h with ⟨rfl, h1, h2⟩ | ⟨h1, h2⟩
    · cases h2
    · rw [set_other h1]; exact S.val j e h2
  ol := fun j e h => by
    rcases get_set h with ⟨rfl, h1, h2⟩ | ⟨h1, h2⟩
    · cases h2
    · rw [set_other h1]; exact S.ol j e h2
  od := fun j e h => by
    rcases get_set h with ⟨rfl, h1, h2⟩ | ⟨h1, h2⟩
    · cases h2
    · rw [set_other h1]; exact S.od j e h2
  er := fun j L c fs h => by
    rcases get_set h with ⟨rfl, h1, h2⟩ | ⟨h1, h2⟩
    · cases h2
    · rw [set_other h1]; exact S.er j L c fs h2
  apart := fun a b s t l h1 h2 h3 h4 h5 h6 => by
    rcases get_set h1 with ⟨rfl, _, q⟩ | ⟨n1, q1⟩
    · subst q; cases h3
    · rcases get_set h2 with ⟨rfl, _, q⟩ | ⟨n2, q2⟩
      · subst q; cases h4
      · rw [set_other n1] at h5
        rw [set_other n2] at h6
        exact S.apart a b s t l q1 q2 h3 h4 h5 h6
theorem St.wipe {B H : Hp} {σ : L2.St} {ρ : Rho} {γ : D} (S : St C H0 B σ H ρ γ) : ∀ vs : List Nat, St C H0 B (L2.wipe σ vs) H (wipeE ρ vs) γ
  | [] => S
  | v :: vs => (St.wipe S vs).un v none
def gNames : List Nat → TGs
  | [] => gNil
  | i :: is => gCons (gName i) (gNames is)
def gTg (K : PySem.W.Frag) : Tg → TG
  | .one i => gName i
  | .tup is => fun v σ H Q => gTup K is.length (gNames is) v σ H Q ∨ gLst K is.length (gNames is) v σ H Q
theorem XOk.locF (ok : XOk G X N sc k C) {x : Str} (h : locB sc x = true) : X.fn x = true ∨ X.env.scope.names.lookup x = some .local := by
  unfold locB at h
  split at h
  · rename_i e
    obtain ⟨q', h1, h2⟩ := ok.sc _ _ e
    rcases h2 with rfl | ⟨h2, _⟩
    · exact .inr h1
    · cases h2
  · rename_i e
    exact .inl (ok.fn _ e)
  · cases h
theorem g_names (ok : XOk G X N sc k C) : ∀ {is : List Nat} {xs : List Expr}, tgNames N sc is xs = true → PGs X xs (gNames is) ∧ (assignEach xs X.env).length = is.length ∧ (assignEach xs X.env).findIdx? (·.1) = none
  | [], [], _ => ⟨pgs_nil, rfl, rfl⟩
  | [], _ :: _, h => by simp [tgNames] at h
  | i :: is, [], h => by simp [tgNames] at h
  | i :: is, x :: xs, h => by
    cases x <;> first | (simp [tgNames] at h; done) | skip
    simp only [tgNames, Bool.and_eq_true, decide_eq_true_eq] at h
    obtain ⟨h1, h2, h3⟩ := g_names ok h.2
    refine ⟨pgs_cons (pg_name ok.nd (by rw [ok.hN]; exact h.1.1) (ok.loc h.1.2) (ok.locF h.1.2)) h1 rfl, ?_, ?_⟩
    · show (assignEach xs X.env).length + 1 = is.length + 1
      rw [h2]
    · show List.findIdx? (·.1) ((false, _) :: assignEach xs X.env) = none
      rw [List.findIdx?_cons, h3]; rfl
theorem pg_or {X : Cx} {x : Expr} {t1 t2 : TG} (h1 : PG X x t1) (h2 : PG X x t2) : PG X x (fun v σ H Q => t1 v σ H Q ∨ t2 v σ H Q) := by
  refine ⟨fun pins s σ H v u Q I r hw => ?_⟩
  rcases hw with hw | hw
  · exact h1.run pins s σ H v u Q I r hw
  · exact h2.run pins s σ H v u Q I r hw
theorem g_tg (ok : XOk G X N sc k C) {tg : Tg} {x : Expr} (h : mTg N sc tg x = true) : PG X x (gTg X.K tg) := by
  cases tg with
  | one i =>
    cases x <;> first | (simp [mTg] at h; done) | skip
    simp only [mTg, Bool.and_eq_true, decide_eq_true_eq] at h
    exact pg_name ok.nd (by rw [ok.hN]; exact h.1) (ok.loc h.2) (ok.locF h.2)
  | tup is =>
    cases x <;> first | (simp [mTg] at h; done) | skip
    simp only [mTg, Bool.and_eq_true, decide_eq_true_eq] at h
    obtain ⟨hcm, h⟩ := h
    obtain ⟨h1, h2, h3⟩ := g_names ok h.1
    exact pg_or (pg_tup (ok.calm hcm) h1 h2 h3) (pg_lst (ok.calm hcm) h1 h2 h3)
theorem gNames_ok {B H : Hp} {γ : D} {Q : L2.St → Hp → Prop} : ∀ {is : List Nat} {vs : List V} {ds : List D} {σ : L2.St} {ρ : Rho}, is.length = ds.length → Reps C.K C.hv B vs ds → St C H0 B σ H ρ γ →
    (∀ σ', St C H0 B σ' H (setAll ρ is ds) γ → (∀ j, j ∉ is → σ'[j]? = σ[j]?) → σ'.length = σ.length → Q σ' H) → gNames is vs σ H Q
  | [], _, _, σ, ρ, h, .nil, S, q => ⟨rfl, q σ S (fun _ _ => rfl) rfl⟩
  | [], _, _, _, _, h, .cons _ _, _, _ => by simp at h
  | i :: is, _, _, _, _, h, .nil, _, _ => by simp at h
  | i :: is, _, _, σ, ρ, h, .cons (v := v) r t, S, q => by
    refine ⟨v, _, rfl, gNames_ok (by simpa using h) t (S.set i r) fun σ' S' h1 h2 => q σ' S' (fun j hj => ?_) (by rw [h2, List.length_set])⟩
    have ne : i ≠ j := by
      intro e
      subst e
      exact hj List.mem_cons_self
    rw [h1 j fun z => hj (List.mem_cons_of_mem _ z), set_other ne]
theorem gTg_ok {B H : Hp} {γ : D} {Q : L2.St → Hp → Prop} {tg : Tg} {v : V} {d : D} {σ : L2.St} {ρ ρ1 : Rho} (hK : C.K = X.K) (hb : bindT tg d ρ = some ρ1) {pr : Bool} (hpr : pr = true → ∃ is, tg = .tup is) (r : RepG C.K C.hv B pr v d) (S : St C H0 B σ H ρ γ)
    (q : ∀ σ', St C H0 B σ' H ρ1 γ → (∀ j, j ∉ tg.slots → σ'[j]? = σ[j]?) → σ'.length = σ.length → Q σ' H) : gTg X.K tg v σ H Q := by
  cases tg with
  | one i =>
    cases hb
    cases pr with
    | true => obtain ⟨_, h⟩ := hpr rfl; cases h
    | false => exact q _ (S.set i r) (fun j hj => set_other fun e => hj (by rw [← e]; exact List.mem_singleton.mpr rfl)) (by rw [List.length_set])
  | tup is =>
    cases d <;> first | (cases hb; done) | skip
    · rename_i ds
      have hb : (if is.length = ds.length then some (setAll ρ is ds) else none) = some ρ1 := hb
      by_cases hl : is.length = ds.length
      · rw [if_pos hl] at hb
        cases hb
        cases pr with
        | true =>
          obtain ⟨a, vs, es, rfl, he, ha, ra⟩ := r
          cases he
          exact .inl ⟨_, _, rfl, hK ▸ sqT_mono S.sub ha, by rw [ra.length, hl], gNames_ok hl ra S q⟩
        | false =>
          cases r with
          | tup ha ra => exact .inl ⟨_, _, rfl, hK ▸ (ha.mono S.sub).t, by rw [ra.length, hl], gNames_ok hl ra S q⟩
      · rw [if_neg hl] at hb
        cases hb
    · rename_i ds
      have hb : (if is.length = ds.length then some (setAll ρ is ds) else none) = some ρ1 := hb
      by_cases hl : is.length = ds.length
      · rw [if_pos hl] at hb
        cases hb
        cases pr with
        | true =>
          obtain ⟨a, vs, es, rfl, he, ha, ra⟩ := r
          cases he
        | false =>
          cases r with
          | lst ha ra => exact .inr ⟨_, _, rfl, .inl (Rd.of (S.sub _ _ ha)), by rw [ra.length, hl], gNames_ok hl ra S q⟩
      · rw [if_neg hl] at hb
        cases hb
theorem wipe_get {σ : L2.St} {j : Nat} : ∀ {vs : List Nat}, (L2.wipe σ vs)[j]? = if j ∈ vs ∧ j < σ.length then some none else σ[j]?
  | [] => by simp [L2.wipe]
  | v :: vs => by
    unfold L2.wipe
    by_cases e : v = j
    · subst e
      by_cases hl : v < σ.length
      · rw [List.getElem?_set_self (by rw [wipe_length]; exact hl), if_pos ⟨List.mem_cons_self, hl⟩]
      · rw [List.getElem?_eq_none (by rw [List.length_set, wipe_length]; omega), if_neg (fun q => hl q.2), List.getElem?_eq_none (by omega)]
    · rw [set_other e, wipe_get]
      have : (j ∈ v :: vs) ↔ j ∈ vs := by rw [List.mem_cons]; exact ⟨fun q => q.elim (fun z => absurd z.symm e) id, .inr⟩
      simp only [this]
theorem wipe_same {σ σ' : L2.St} {vs : List Nat} (h1 : ∀ j, j ∉ vs → σ'[j]? = σ[j]?) (h2 : σ'.length = σ.length) : L2.wipe σ' vs = L2.wipe σ vs := by
  refine List.ext_getElem? fun j => ?_
  rw [wipe_get, wipe_get, h2]
  by_cases hj : j ∈ vs
  · by_cases hl : j < σ.length
    · rw [if_pos ⟨hj, hl⟩, if_pos ⟨hj, hl⟩]
    · rw [if_neg (fun q => hl q.2), if_neg (fun q => hl q.2), List.getElem?_eq_none (by omega), List.getElem?_eq_none (by omega)]
  · rw [if_neg (fun q => hj q.1), if_neg (fun q => hj q.1), h1 j hj]
end
end PyI

set_option maxRecDepth 100000
/-! PyI, part MT: methods that change nothing. -/
namespace PyI
open PySem PySem.Spec PyProof.Rows L2
section
variable {X : Cx}
theorem ty_s {K : PySem.W.Frag} {x : V} {H : Hp} {a : Str} (e : x = .str a) : tyV K "str" x H := by
  subst e
  exact rfl
theorem ty_l {K : PySem.W.Frag} {x : V} {H : Hp} {p : Addr} {xs : List V} (e : x = .ref p) (h : SqL K H p xs) : tyV K "list" x H := by
  subst e
  exact .inl ⟨rfl, xs, h⟩
/-- the builtin type of a thing that has no dict -/
def tyM (K : PySem.W.Frag) (T : String) (x : V) (H : Hp) : Prop := tyV K T x H ∨ (T = "tuple" ∧ ∃ p vs, x = .ref p ∧ SqF K H p vs)
theorem tyM_is {pins : List (Addr × Obj)} {σ : L2.St} {H : Hp} {s : Shared} {T : String} {x : V} {v : Value} (I : Inv X pins σ H s) (r : RelV x v) (ty : tyM X.K T x H) :
    s.TypeIs v T ∧ ∀ a, v = .ref a → ∃ ob, s.heap.get? a = some ob ∧ ob.dict = none := by
  rcases ty with ty | ⟨rfl, p, vs, rfl, h⟩
  · exact tyV_is I r ty
  · cases r
    obtain ⟨_, _, ht, _⟩ := I.tuple h.t
    refine ⟨ht.typeIs, fun a e => ?_⟩
    cases e
    obtain ⟨o, hd, h | ⟨h, _⟩⟩ := h
    · exact ⟨o, (I.hok p _ h).1, hd⟩
    · exact ⟨o, I.kIn p o h, hd⟩
def tM0 (K : PySem.W.Frag) (T : String) (r : V → List V → Hp → VK → Prop) (to : TE) : TE := fun σ H Q => to σ H fun x H1 => tyM K T x H1 ∧ r x [] H1 Q
def tMn (K : PySem.W.Frag) (T : String) (r : V → List V → Hp → VK → Prop) (to : TE) (t : TA) : TE := fun σ H Q => to σ H fun x H1 => tyM K T x H1 ∧ t σ H1 fun xs H2 => r x xs H2 Q
section
variable {o e : Expr} {es : List Expr} {to : TE} {t : TA} {name : Str} {apos cpos : Pos} {T id : String} {r : V → List V → Hp → VK → Prop}
theorem peM_0 (pa : PlainAttrs T) (slot : Slot T name id) (hty : typeOf (.builtin id) = pure (.type "method_descriptor")) (hm : MtR X id r) (ho : PE X o to)
    (hbase : attributeBase o name X.env (eval o X.env) = eval o X.env) (hline : (apos.endLine == cpos.line) = true) : PE X (.Call (.Attribute o name apos) [] [] cpos) (tM0 X.K T r to) := by
  refine ⟨fun pins s σ H Q I h => wpAny_Call_method0_late hbase hline (thn (ho.run pins s σ H _ I h) fun v s1 ⟨x, H1, I1, r1, ty, q1⟩ => ?_)⟩
  obtain ⟨h1, h2⟩ := tyM_is I1 r1 ty
  exact ⟨T, id, pa, slot, hty, h1, h2, Calls.callWith_builtin rfl (PySem.evalArgs_none (hm pins s1 σ H1 x [] v [] Q I1 r1 .nil q1))⟩
theorem peM_n (pa : PlainAttrs T) (slot : Slot T name id) (hty : typeOf (.builtin id) = pure (.type "method_descriptor")) (hm : MtR X id r) (ho : PE X o to) (ha : PA X (e :: es) t)
    (hbase : attributeBase o name X.env (eval o X.env) = eval o X.env)
    (hfew : ((backTo cpos (starEach (e :: es) X.env)).all (fun x => !x.1) && (backToKw cpos (keywordEach [] X.env)).all (fun x => x.1.isSome)
      && decide ((e :: es).length + ([] : List Keyword).length + (if ([] : List Keyword).isEmpty then 0 else 1) < 30)) = true)
    (hline : (apos.endLine == cpos.line) = true) (hs : starEach (e :: es) X.env = (false, eval e X.env) :: starEach es X.env) (hplain : (backTo cpos (starEach es X.env)).any (·.1) = false) :
    PE X (.Call (.Attribute o name apos) (e :: es) [] cpos) (tMn X.K T r to t) := by
  refine ⟨fun pins s σ H Q I h => wpAny_Call_method_late hbase hfew hline rfl (thn (ho.run pins s σ H _ I h) fun v s1 ⟨x, H1, I1, r1, ty, q1⟩ => ?_)⟩
  obtain ⟨h1, h2⟩ := tyM_is I1 r1 ty
  have hA := ha.run cpos pins s1 σ H1 _ I1 q1
  rw [hs] at hA ⊢
  refine ⟨T, id, pa, slot, hty, h1, h2, Calls.callWith_builtin (by show (false || (backTo cpos (starEach es X.env)).any (·.1)) = false; rw [hplain] <;> rfl) (Calls.evalArgs_plain ?_)⟩
  exact thn hA fun us s2 ⟨vs, H2, I2, r2, q2⟩ => hm pins s2 σ H2 x vs v us Q I2 r1 r2 q2
end
/-- t.index(k), t a tuple of ints that has it -/
def rIxT (K : PySem.W.Frag) : V → List V → Hp → VK → Prop := fun x xs H Q => ∃ (a : Addr) (ns : List Int) (k : Int), x = .ref a ∧ xs = [.int k] ∧ SqT K H a (ns.map V.int) ∧ k ∈ ns ∧ Q (.int (ns.idxOf k : Nat)) H
theorem mt_ixT : MtR X "tuple.index" (rIxT X.K) := by
  rintro pins s σ H x xs v us Q I rx rxs ⟨a, ns, k, rfl, rfl, hs, hk, q⟩
  cases rx
  obtain ⟨u, rfl, t, rfl⟩ := vals1 rxs
  obtain ⟨its, rv, hp, _⟩ := I.tuple hs
  exact PySem.SeqAt.tuple_index_ints (vs := its) hp (intsAre_of rv) hk ⟨.int (ns.idxOf k : Nat), H, I.tok _, ⟨_, rfl⟩, q⟩
theorem ty_d {K : PySem.W.Frag} {x : V} {H : Hp} {p : Addr} {kvs : List (L2.Key × V)} (e : x = .ref p) (h : H p = some (.dK kvs)) : tyV K "dict" x H := by
  subst e
  exact .inr (.inr (.inl ⟨rfl, .inl ⟨kvs, h⟩⟩))
def rDG : V → List V → Hp → VK → Prop := fun x xs H Q => ∃ p o, x = .ref p ∧ ((∃ y, xs = [y] ∧ DGet H p y o ∧ Q (o.getD .non) H) ∨ ∃ y d, xs = [y, d] ∧ DGet H p y o ∧ Q (o.getD d) H)
theorem mt_dg (hu : X.A.units + 1 < cLine) : MtR X "dict.get" rDG := by
  rintro pins s σ H x xs v us Q I rx rs ⟨p, o, rfl, ⟨y, rfl, g, q⟩ | ⟨y, d, rfl, g, q⟩⟩
  · cases rx
    obtain ⟨u, rfl, r⟩ := rs.one
    exact d_get1 hu I g r fun w' s' I' r' => ⟨_, H, I', r', q⟩
  · cases rx
    obtain ⟨u, u2, rfl, r, r2⟩ := rs.two
    exact d_get2 hu I g r r2 fun w' s' I' r' => ⟨_, H, I', r', q⟩
def rLC (K : PySem.W.Frag) : V → List V → Hp → VK → Prop := fun x xs H Q => ∃ p ys y, x = .ref p ∧ xs = [y] ∧ SqL K H p ys ∧ flatV y = true ∧ ys.all flatV = true ∧ Q (.int (ys.countP fun z => eqV z y : Nat)) H
theorem cnt_u {y : V} : ∀ {ys : List V} {its : List Value}, Vals ys its → ys.all flatV = true → its.countP (eqU y) = ys.countP fun z => eqV z y
  | [], _, .nil, _ => rfl
  | z :: ys, _, .cons r t, f => by
    rw [List.all_cons, Bool.and_eq_true] at f
    rw [List.countP_cons, List.countP_cons, cnt_u t f.2, eqU_of r f.1]
theorem mt_lc : MtR X "list.count" (rLC X.K) := by
  rintro pins s σ H x xs v us Q I rx rs ⟨p, ys, y, rfl, rfl, hs, fy, fys, q⟩
  cases rx
  obtain ⟨u, rfl, r⟩ := rs.one
  obtain ⟨its, rv, ⟨⟨cls, dd, dt, sl⟩, n, ho, hc, hn, hd⟩, hlen⟩ := I.list hs
  simp only at hc hd
  subst hc hd
  refine call_meets PySem.F.slot_list_count ⟨_, ho, rfl⟩ PySem.F.entry_list_count (PySem.F.args_list_count_2 _ _) (SeqAt.list_countAt p its.toArray n dd sl u (eqU y)) ⟨ho, fun w hw => mem_eqAt r fy rv fys w (by simpa using hw), .int (ys.countP fun z => eqV z y : Nat), H, I.tok _, ⟨s.toks, ?_⟩, q⟩
  show Value.int ((its.countP (eqU y) : Nat) : Int) s.toks = _
  rw [cnt_u rv fys]
end
theorem cnt_of {K : PySem.W.Frag} {hv : Nat → V} {B : Hp} {w : V} {e : D} (he : flatD e = true) (q : Rep K hv B w e) : ∀ {vs : List V} {ds : List D}, ds.all flatD = true → Reps K hv B vs ds → (vs.countP fun y => eqV y w) = ds.countP fun y => eqvD y e
  | _, _, _, .nil => rfl
  | _, _, h, .cons r t => by
    rw [List.all_cons, Bool.and_eq_true] at h
    rw [List.countP_cons, List.countP_cons, cnt_of he q h.2 t, eqV_of h.1 he r q]
theorem idx_of {K : PySem.W.Frag} {hv : Nat → V} {B : Hp} {w : V} {e : D} (he : flatD e = true) (q : Rep K hv B w e) : ∀ {vs : List V} {ds : List D} {j : Nat}, ds.all flatD = true → Reps K hv B vs ds → (ds.findIdx? fun y => eqvD y e) = some j → ∃ z, vs[j]? = some z ∧ eqV z w = true ∧ ∀ (m : Nat) (z' : V), m < j → vs[m]? = some z' → eqV z' w = false
  | _, _, _, _, .nil, h => by cases h
  | v :: _, d :: _, j, f, .cons r t, h => by
    rw [List.all_cons, Bool.and_eq_true] at f
    rw [List.findIdx?_cons] at h
    have ev := eqV_of f.1 he r q
    cases hd : eqvD d e with
    | true =>
      rw [hd, if_pos rfl] at h
      cases h
      exact ⟨v, rfl, ev.trans hd, fun m z' hm => absurd hm (Nat.not_lt_zero _)⟩
    | false =>
      rw [hd, if_neg Bool.false_ne_true] at h
      obtain ⟨i, hi, rfl⟩ := Option.map_eq_some_iff.mp h
      obtain ⟨z, h1, h2, h3⟩ := idx_of he q f.2 t hi
      refine ⟨z, h1, h2, fun m z' hm hz => ?_⟩
      cases m with
      | zero => cases hz; exact ev.trans hd
      | succ m => exact h3 m z' (Nat.lt_of_succ_lt_succ hm) hz
theorem strs_of {K : PySem.W.Frag} {hv : Nat → V} {B : Hp} : ∀ {vs : List V} {ds : List D} {zs : List Str}, Reps K hv B vs ds → strsD ds = some zs → vs = zs.map V.str
  | _, _, _, .nil, h => by cases h; rfl
  | _, _, _, .cons r t, h => by
    cases r <;> first | (cases h; done) | skip
    rw [strsD] at h
    obtain ⟨ys, h1, rfl⟩ := Option.map_eq_some_iff.mp h
    rw [strs_of t h1]; rfl
theorem reps_strs {K : PySem.W.Frag} {hv : Nat → V} {B : Hp} : ∀ zs : List Str, Reps K hv B (zs.map V.str) (zs.map D.str)
  | [] => .nil
  | z :: zs => .cons (.str z) (reps_strs zs)
section
variable {G : Gho → Prop} {X : Cx} {N : List Str} {sc : Scope} {k : Nat} {C : Gho} {W : WX} {H0 : Hp} {pos : Pos}
/-- what a method asks, by the thing -/
theorem mt_ok (hK : C.K = X.K) (hu : X.A.units + 65 < cLine) {m : Mt} {d : D} (hd : mtD m d = true) : ∃ (T id : String) (r : V → List V → Hp → VK → Prop), PlainAttrs T ∧ Slot T m.nm id ∧
    typeOf (.builtin id) = pure (.type "method_descriptor") ∧ MtR X id r ∧ (∀ B H v, Same B H → RepB C B H v d → tyM X.K T v H) ∧
    ∀ ds z, mtF m d ds = some z → ∀ B H v us γ Q, Same B H → C.rep γ H → RepB C B H v d → Reps C.K C.hv B us ds → Done C B H γ .clean z Q → r v us H Q := by
  have flat : ∀ {B H : Hp} {γ : D} {z : D} {w : V} {Q : VK}, Same B H → C.rep γ H → Rep C.K C.hv B w z → Done C B H γ .clean z Q → Q w H := fun s g r h => h _ _ _ (Ext.refl s) g r
  cases m with
  | get =>
    cases d <;> first | (cases hd; done) | skip
    rename_i kvs
    refine ⟨"dict", "dict.get", rDG, F.plainAttrs_dict, F.slot_dict_get, F.type_dict_get, mt_dg (by omega), fun B H v s r => ?_, fun ds z hz B H v us γ Q s g r rs q => ?_⟩
    · obtain ⟨a, vs, rfl, h, _⟩ := r.dic s
      exact .inl (ty_d rfl h)
    · obtain ⟨a, vs, rfl, h, hr⟩ := r.dic s
      refine ⟨a, ?_⟩
      have one : ∀ (kk : L2.Key) (dflt : V) (dd : D), Rep C.K C.hv B dflt dd → Done C B H γ .clean ((valD kvs kk).getD dd) Q → ∃ o, o = valV vs kk ∧ Q (o.getD dflt) H := fun kk dflt dd hr2 q => by
        refine ⟨_, rfl, ?_⟩
        rcases hr.val (k := kk) with ⟨e1, e2⟩ | ⟨w, e, e1, e2, e3⟩
        · rw [e2] at q; rw [e1]; exact flat s g hr2 q
        · rw [e2] at q; rw [e1]; exact flat s g e3 q
      have key : ∀ {y : D} {w : V} {kk : L2.Key}, keyOf y = some kk → Rep C.K C.hv B w y → w = kV kk := fun {y w kk} e r => by
        cases y <;> first | (cases e; done) | skip
        · cases e; cases r; rfl
        · cases e; cases r; rfl
      match ds, rs, hz with
      | [y], .cons ry .nil, hz =>
        have : ∃ kk, keyOf y = some kk ∧ z = (valD kvs kk).getD .non := by
          cases y <;> first | (cases hz; done) | (cases hz; exact ⟨_, rfl, rfl⟩)
        obtain ⟨kk, e, rfl⟩ := this
        obtain ⟨o, rfl, q1⟩ := one kk .non .non .non q
        rw [key e ry]
        exact ⟨_, rfl, .inl ⟨_, rfl, .k h, q1⟩⟩
      | [y, x], .cons ry (.cons rx .nil), hz =>
        have : ∃ kk, keyOf y = some kk ∧ z = (valD kvs kk).getD x := by
          cases y <;> first | (cases hz; done) | (cases hz; exact ⟨_, rfl, rfl⟩)
        obtain ⟨kk, e, rfl⟩ := this
        obtain ⟨o, rfl, q1⟩ := one kk _ x rx q
        rw [key e ry]
        exact ⟨_, rfl, .inr ⟨_, _, rfl, .k h, q1⟩⟩
      | [], _, hz => simp [mtF] at hz
      | _ :: _ :: _ :: _, _, hz => simp [mtF] at hz
  | index =>
    cases d <;> first | (cases hd; done) | skip
    · rename_i ys
      refine ⟨"tuple", "tuple.index", rIxT X.K, F.plainAttrs_tuple, F.slot_tuple_index, F.type_tuple_index, mt_ixT, fun B H v s r => ?_, fun ds z hz B H v us γ Q s g r rs q => ?_⟩
      · obtain ⟨a, vs, rfl, h, _, _⟩ := r.tup s
        exact .inr ⟨rfl, a, vs, rfl, hK ▸ h.mono s⟩
      · obtain ⟨a, vs, rfl, _, h, hr⟩ := r.tup s
        match ds, rs, hz with
        | [y], .cons ry .nil, hz =>
          cases y <;> first | (cases hz; done) | skip
          rw [mtF] at hz
          split at hz
          · rename_i ns hns
            split at hz
            · rename_i hk
              cases hz
              cases ry
              have e := hr.intsD hns
              subst e
              exact ⟨a, ns, _, rfl, rfl, hK ▸ h, hk, flat s g (.int _) q⟩
            · cases hz
          · cases hz
        | [], _, hz => simp [mtF] at hz
        | _ :: _ :: _, _, hz => simp [mtF] at hz
    · rename_i ys
      refine ⟨"list", "list.index", rIndex X.K, F.plainAttrs_list, F.slot_list_index, F.type_list_index, mt_index, fun B H v s r => ?_, fun ds z hz B H v us γ Q s g r rs q => ?_⟩
      · obtain ⟨a, vs, rfl, h, _⟩ := r.lst s
        exact .inl (ty_l rfl (SqL.of h))
      · obtain ⟨a, vs, rfl, h, hr⟩ := r.lst s
        match ds, rs, hz with
        | [y], .cons ry .nil, hz =>
          rw [mtF] at hz
          split at hz
          · rename_i hc
            rw [Bool.and_eq_true] at hc
            obtain ⟨j, hj, rfl⟩ := Option.map_eq_some_iff.mp hz
            obtain ⟨w, h1, h2, h3⟩ := idx_of hc.1 ry hc.2 hr hj
            exact ⟨a, vs, _, j, w, rfl, rfl, SqL.of h, flatV_of hc.1 ry, flats_of hc.2 hr, h1, h2, h3, flat s g (.int _) q⟩
          · cases hz
        | [], _, hz => simp [mtF] at hz
        | _ :: _ :: _, _, hz => simp [mtF] at hz
  | count =>
    cases d <;> first | (cases hd; done) | skip
    · rename_i a
      refine ⟨"str", "str.count", _, F.plainAttrs_str, F.slot_str_count, F.type_str_count, mt_count, fun B H v s r => .inl (ty_s r.str), fun ds z hz B H v us γ Q s g r rs q => ?_⟩
      match ds, rs, hz with
      | [y], .cons ry .nil, hz =>
        cases y <;> first | (cases hz; done) | skip
        cases hz
        cases ry
        exact ⟨a, _, r.str, rfl, flat s g (.int _) q⟩
      | [], _, hz => simp [mtF] at hz
      | _ :: _ :: _, _, hz => simp [mtF] at hz
    · rename_i ys
      refine ⟨"list", "list.count", rLC X.K, F.plainAttrs_list, F.slot_list_count, F.type_list_count, mt_lc, fun B H v s r => ?_, fun ds z hz B H v us γ Q s g r rs q => ?_⟩
      · obtain ⟨a, vs, rfl, h, _⟩ := r.lst s
        exact .inl (ty_l rfl (SqL.of h))
      · obtain ⟨a, vs, rfl, h, hr⟩ := r.lst s
        match ds, rs, hz with
        | [y], .cons ry .nil, hz =>
          rw [mtF] at hz
          split at hz
          · rename_i hc
            rw [Bool.and_eq_true] at hc
            cases hz
            refine ⟨a, vs, _, rfl, rfl, SqL.of h, flatV_of hc.1 ry, flats_of hc.2 hr, ?_⟩
            rw [cnt_of hc.1 ry hc.2 hr]
            exact flat s g (.int _) q
          · cases hz
        | [], _, hz => simp [mtF] at hz
        | _ :: _ :: _, _, hz => simp [mtF] at hz
  | join =>
    cases d <;> first | (cases hd; done) | skip
    rename_i a
    refine ⟨"str", "str.join", _, F.plainAttrs_str, F.slot_str_join, F.type_str_join, mt_join, fun B H v s r => .inl (ty_s r.str), fun ds z hz B H v us γ Q s g r rs q => ?_⟩
    match ds, rs, hz with
    | [y], .cons ry .nil, hz =>
      cases y <;> first | (cases hz; done) | skip
      rename_i ys
      rw [mtF] at hz
      split at hz
      · rename_i zs hzs
        split at hz
        · rename_i hsz
          cases hz
          cases ry with
          | lst hb hr =>
            rename_i p vs
            exact ⟨a, p, zs, r.str, rfl, .inl (SqL.of (by rw [s _ _ hb, strs_of hr hzs])), hsz, flat s g (.str _) q⟩
        · cases hz
      · cases hz
    | [], _, hz => simp [mtF] at hz
    | _ :: _ :: _, _, hz => simp [mtF] at hz
  | split =>
    cases d <;> first | (cases hd; done) | skip
    rename_i a
    refine ⟨"str", "str.split", _, F.plainAttrs_str, F.slot_str_split, F.type_str_split, mt_split, fun B H v s r => .inl (ty_s r.str), fun ds z hz B H v us γ Q s g r rs q => ?_⟩
    match ds, rs, hz with
    | [y], .cons ry .nil, hz =>
      cases y <;> first | (cases hz; done) | skip
      rename_i b
      rw [mtF] at hz
      split at hz
      · rename_i hsz
        cases hz
        cases ry
        refine ⟨a, b, r.str, rfl, hsz.1, hsz.2, fun p hp => ?_⟩
        exact q _ _ _ (Ext.allocB s hp) (C.stayE g hp) (.lst upd_same (reps_strs _))
      · cases hz
    | [], _, hz => simp [mtF] at hz
    | _ :: _ :: _, _, hz => simp [mtF] at hz
  | upper =>
    cases d <;> first | (cases hd; done) | skip
    rename_i a
    refine ⟨"str", "str.upper", _, F.plainAttrs_str, F.slot_str_upper, F.type_str_upper, mt_upper, fun B H v s r => .inl (ty_s r.str), fun ds z hz B H v us γ Q s g r rs q => ?_⟩
    match ds, rs, hz with
    | [], .nil, hz =>
      rw [mtF] at hz
      split at hz
      · rename_i hsz
        cases hz
        exact ⟨a, r.str, rfl, hsz, flat s g (.str _) q⟩
      · cases hz
    | _ :: _, _, hz => simp [mtF] at hz
theorem base_of {o : Expr} {m : Str} {env : PySem.Env} {q : PySem.Sem Value} (h : notC0 o = true) : attributeBase o m env q = q := by
  cases o <;> first | (cases h; done) | rfl
theorem few_of : ∀ {xs : List Expr}, (∀ x ∈ xs, notStar x = true) → ∀ {cpos : Pos} {env : PySem.Env}, (backTo cpos (starEach xs env)).all (fun x => !x.1) = true ∧ (backTo cpos (starEach xs env)).any (·.1) = false
  | [], _, _, _ => ⟨rfl, rfl⟩
  | x :: xs, h, cpos, env => by
    rw [starEach_cons (h x List.mem_cons_self)]
    obtain ⟨h1, h2⟩ := few_of (fun y hy => h y (List.mem_cons_of_mem _ hy)) (cpos := cpos) (env := env)
    exact ⟨by simpa [backTo] using h1, by simpa [backTo] using h2⟩
theorem c_mth (ok : XOk G X N sc k C) {m : Mt} {o : E} {es : List E} {x : Expr} {xs : List Expr} {ap cp : Pos} (hb : notC0 x = true) (hl : (ap.endLine == cp.line) = true) (hn : xs.length ≤ 2) (hs : ∀ x ∈ xs, notStar x = true) (hes : xs = [] → es = []) (ho : PE X x (tE C X.mg H0 W o)) (ha : PA X xs (tAc C X.mg H0 W es)) :
    PE X (.Call (.Attribute x m.nm ap) xs [] cp) (tE C X.mg H0 W (.mth m o es)) := by
  refine ⟨fun pins s σ H Q I hq => ?_⟩
  obtain ⟨B, ρ, γ, S, hq⟩ := hq
  rw [ev] at hq
  have main : ∀ {T id : String} {r : V → List V → Hp → VK → Prop}, PlainAttrs T → Slot T m.nm id → typeOf (.builtin id) = pure (.type "method_descriptor") → MtR X id r →
      tE C X.mg H0 W o σ H (fun x H1 => tyM X.K T x H1 ∧ tAc C X.mg H0 W es σ H1 fun us H2 => r x us H2 Q) → wpAny (model X.prog X.w) X.A (eval (.Call (.Attribute x m.nm ap) xs [] cp) X.env) (EP X pins σ Q) X.xe s := by
    intro T id r h2 h3 h4 h5 h6
    cases xs with
    | nil =>
      refine (peM_0 h2 h3 h4 h5 ho (base_of hb) hl).run pins s σ H Q I ?_
      obtain ⟨B, ρ, γ, S, hq⟩ := h6
      refine ⟨B, ρ, γ, S, hq.imp fun d g hd v B1 H1 x1 g1 r1 => ?_⟩
      obtain ⟨t1, B2, ρ2, γ2, S2, t2⟩ := hd v B1 H1 x1 g1 r1
      rw [hes rfl, evs] at t2
      exact ⟨t1, t2 [] B2 H1 (Ext.refl S2.sub) S2.gh .nil⟩
    | cons e es' =>
      obtain ⟨f1, f2⟩ := few_of hs (cpos := cp) (env := X.env)
      refine (peM_n h2 h3 h4 h5 ho ha (base_of hb) ?_ hl (starEach_cons (hs e List.mem_cons_self)) (few_of (fun y hy => hs y (List.mem_cons_of_mem _ hy))).2).run pins s σ H Q I h6
      rw [f1, Bool.true_and]
      have : decide ((e :: es').length + ([] : List Keyword).length + (if ([] : List Keyword).isEmpty then 0 else 1) < 30) = true := decide_eq_true (by
        show (e :: es').length + 0 + 0 < 30
        omega)
      rw [this]; rfl
  cases he : ev o ρ γ with
  | no => rw [he] at hq; exact hq.elim
  | exc c fs g =>
    obtain ⟨d0, h0⟩ : ∃ d0, mtD m d0 = true := by
      cases m
      · exact ⟨.dic [], rfl⟩
      · exact ⟨.lst [], rfl⟩
      · exact ⟨.lst [], rfl⟩
      · exact ⟨.str "", rfl⟩
      · exact ⟨.str "", rfl⟩
      · exact ⟨.str "", rfl⟩
    obtain ⟨T, id, r, h2, h3, h4, h5, _⟩ := mt_ok (C := C) ok.hK ok.units h0
    refine main h2 h3 h4 h5 ⟨B, ρ, γ, S, ?_⟩
    rw [he] at hq ⊢
    exact hq
  | ok d g =>
    rw [he] at hq
    have hq : Fin C X.mg W B σ H (if mtD m d = true then (evs es ρ g).bind fun ds g2 => opt g2 (mtF m d ds) else .no) _ := hq
    cases hd : mtD m d with
    | false => rw [hd, if_neg Bool.false_ne_true] at hq; exact hq.elim
    | true =>
      rw [hd, if_pos rfl] at hq
      obtain ⟨T, id, r, h2, h3, h4, h5, h6, h7⟩ := mt_ok (C := C) ok.hK ok.units hd
      refine main h2 h3 h4 h5 ⟨B, ρ, γ, S, ?_⟩
      rw [he]
      intro v B1 H1 x1 g1 r1
      have S1 := S.ext x1 g1
      refine ⟨h6 B1 H1 v x1.s (r1.b S.gh), B1, ρ, g, S1, (hq.ext x1).bind.imp fun ds g2 h8 us B2 H2 x2 g2' r2 => ?_⟩
      obtain ⟨z, hz, h9⟩ := h8.opt
      exact h7 ds z hz B2 H2 v us g2 Q x2.s g2' ((r1.b S.gh).mono x2) r2 (h9.ext (x1.trans x2))
end
theorem mEs_st : ∀ {N : List Str} {sc : Scope} {es : List E} {xs : List Expr}, mEs N sc es xs = true → (∀ x ∈ xs, notStar x = true) ∧ (xs = [] → es = [])
  | _, _, [], [], _ => ⟨fun _ h => (nomatch h), fun _ => rfl⟩
  | _, _, [], _ :: _, h => by unfold mEs at h; cases h
  | _, _, e :: es, [], h => by unfold mEs at h; cases h
  | N, sc, e :: es, y :: ys, h => by
    unfold mEs at h
    simp only [Bool.and_eq_true] at h
    obtain ⟨h1, _⟩ := mEs_st h.2
    exact ⟨fun x hx => by
      rcases List.mem_cons.mp hx with rfl | hx
      · exact h.1.2
      · exact h1 x hx, fun z => nomatch z⟩
end PyI

set_option maxRecDepth 100000
/-! PyI, part XI: questions about an error that a suite holds. -/
namespace PyI
open PySem PySem.Spec PyProof.Rows L2
variable {G : Gho → Prop}
def XdAt (H : Hp) (od : Option Addr) : Prop := match od with
  | none => True
  | some p => ∃ fs, H p = some (.xd fs)
theorem ErF.xd {C : Gho} {B H : Hp} {fs : List (Str × D)} {od : Option Addr} (h : ErF C B H fs od) : XdAt H od := by
  match fs, od, h with
  | [], none, _ => trivial
  | [(f, d)], some p, h =>
    obtain ⟨v, h1, h2, h3, h4⟩ := h
    exact ⟨_, h1⟩
  | [], some _, h => exact h.elim
  | [_], none, h => exact h.elim
  | _ :: _ :: _, _, h => exact h.elim
section
variable {X : Cx} {N : List Str} {sc : Scope} {k : Nat} {C : Gho} {W : WX} {H0 : Hp} {pos : Pos}
theorem inst_of {pins : List (Addr × Obj)} {σ : L2.St} {H : Hp} {s : Shared} {a D : Addr} {oe : Obj} {od : Option Addr} (I : Inv X pins σ H s) (hp : (a, oe) ∈ X.pn) (hz : Zc (.ref D) od oe) (hf : ∃ vs, oe.data = .fields vs) (hx : XdAt H od) : ∃ od', PySem.W.InstAt s.heap a oe D od' := by
  obtain ⟨hget, _⟩ := I.pin (a, oe) (List.mem_append.mpr (.inl hp))
  obtain ⟨vs, hv⟩ := hf
  have hn : PySem.W.notCls oe = true := by unfold PySem.W.notCls; rw [hv] <;> rfl
  cases od with
  | none => exact ⟨none, hget, hz.1, hn, by rw [hz.2]; trivial⟩
  | some p =>
    obtain ⟨fs, h1⟩ := hx
    have hxx : ObjOk X.prog X.w H s.heap p (.xd fs) := I.hok p _ h1
    obtain ⟨mA, hns, hr⟩ := hxx
    obtain ⟨od, ho, hl⟩ := lookIn_ns hns
    exact ⟨some od, hget, hz.1, hn, by rw [hz.2]; exact ho⟩
theorem call_isA {a D : Addr} {oe : Obj} {od : Option Addr} {v : V} {u : Value} {b : Bool} (hp : (a, oe) ∈ X.pn) (hz : Zc (.ref D) od oe) (hf : ∃ vs, oe.data = .fields vs)
    (kx : ∀ {x : Addr} {ox : Obj} {od : Option Obj}, PySem.W.KitX X.K (.ref x) (.ref D) (fun h => PySem.W.InstAt h x ox D od)) (hu : ∀ u', RelV v u' → u' = u) (e : PySem.W.kitOne X.K (.ref D) u = some b) :
    CallR X (.builtin "isinstance") (fun xs H Q => xs = [.ref a, v] ∧ XdAt H od ∧ Q (.bl b) H) := by
  intro pins s σ H xs us Q I r h
  obtain ⟨rfl, hx, q⟩ := h
  cases r with
  | cons rx rr =>
    cases rr with
    | cons rt rr =>
      cases rr
      cases rx
      obtain rfl := hu _ rt
      obtain ⟨od', J⟩ := inst_of I hp hz hf hx
      exact PySem.W.kia_one kx I.kIn J e (fun z => nomatch z) fun tk => ⟨.bl b, H, I.kept (t' := tk) fun _ _ z => z, rfl, q⟩
theorem call_isL {a D : Addr} {oe : Obj} {od : Option Addr} {vs : List V} {ws : List Value} {b : Bool} (hp : (a, oe) ∈ X.pn) (hz : Zc (.ref D) od oe) (hf : ∃ vs, oe.data = .fields vs)
    (kx : ∀ {x : Addr} {ox : Obj} {od : Option Obj}, PySem.W.KitX X.K (.ref x) (.ref D) (fun h => PySem.W.InstAt h x ox D od)) (hu : ∀ ws', Vals vs ws' → ws' = ws) (e : PySem.W.kitAny X.K (.ref D) ws = some b) :
    CallR X (.builtin "isinstance") (fun xs H Q => ∃ q, xs = [.ref a, .ref q] ∧ H q = some (.tup vs) ∧ XdAt H od ∧ Q (.bl b) H) := by
  intro pins s σ H xs us Q I r h
  obtain ⟨q, rfl, hq, hx, k⟩ := h
  cases r with
  | cons rx rr =>
    cases rr with
    | cons rt rr =>
      cases rr
      cases rx
      cases rt
      obtain ⟨od', J⟩ := inst_of I hp hz hf hx
      have ht : ObjOk X.prog X.w H s.heap q (.tup vs) := I.hok q _ hq
      obtain ⟨_, its, rv, o, ho, hc, n, hd⟩ := ht
      obtain rfl := hu _ rv
      obtain ⟨oc, od2, oda, osl⟩ := o
      dsimp only at hc hd
      subst hc hd
      exact PySem.W.kia_tup kx I.kIn J ho e (fun z => nomatch z) fun tk => ⟨.bl b, H, I.kept (t' := tk) fun _ _ z => z, rfl, k⟩
/-- a class by its name -/
theorem pe_clsN (ok : XOk G X N sc k C) {L : List Str} {c x : Str} {D : Addr} (T : TryOk X.K X.mg L c D) (hx : knownE L x = true) (hg : glB sc x = true) : ∃ v u, (∀ pos, PE X (.Name x pos) (tC v)) ∧ (∀ u', RelV v u' → u' = u) ∧ PySem.W.kitOne X.K (.ref D) u = some (subE c x) := by
  obtain ⟨g1, g2, g3⟩ := ok.gl hg
  obtain ⟨v, u, h1, h2, h3, h4⟩ := T.2.2.1 x hx
  refine ⟨v, u, fun pos => ?_, h3, h4⟩
  rcases h1 with ⟨h1, _⟩ | ⟨h1, h5, h6⟩
  · exact pe_glob g1 h1 h2 g2
  · exact pe_bltn g1 h1 h5 h2 h6 g2
def tK (vs : List V) : TA := fun _ H Q => Q vs H
theorem pa_clsN (ok : XOk G X N sc k C) {L : List Str} {c : Str} {D : Addr} (T : TryOk X.K X.mg L c D) : ∀ {cs : List Str} {xs : List Expr}, clsNames sc cs xs = true → cs.all (knownE L) = true →
    ∃ vs ws, PA X xs (tK vs) ∧ (∀ ws', Vals vs ws' → ws' = ws) ∧ PySem.W.kitAny X.K (.ref D) ws = some (cs.any (subE c)) ∧ vs.length = cs.length
  | [], [], _, _ => ⟨[], [], pa_nil, fun ws' h => by cases h; rfl, rfl, rfl⟩
  | x :: cs, e0 :: xs, h, hk => by
    cases e0 <;> first | (simp [clsNames] at h; done) | skip
    rename_i y p
    simp only [clsNames, Bool.and_eq_true, decide_eq_true_eq] at h
    obtain ⟨⟨rfl, hg⟩, h⟩ := h
    rw [List.all_cons, Bool.and_eq_true] at hk
    obtain ⟨v, u, q1, q2, q3⟩ := pe_clsN ok T hk.1 hg
    obtain ⟨vs, ws, r1, r2, r3, r4⟩ := pa_clsN ok T h hk.2
    refine ⟨v :: vs, u :: ws, pa_cons (q1 p) r1 (starEach_cons rfl), fun ws' h => ?_, ?_, by rw [List.length_cons, List.length_cons, r4]⟩
    · cases h with
      | cons a b => rw [q2 _ a, r2 _ b]
    · rw [PySem.W.kitAny, q3, List.any_cons]
      cases subE c x with
      | true => rfl
      | false => exact r3
  | [], _ :: _, h, _ => by simp [clsNames] at h
  | _ :: _, [], h, _ => by simp [clsNames] at h
theorem c_eis1 (ok : XOk G X N sc k C) {i : Nat} {z w : Str} {p p2 p3 : Pos} (h1 : glB sc "isinstance" = true) (h2 : nameB N sc i z = true) (h3 : glB sc w = true) : PE X (.Call (.Name "isinstance" p) [.Name z p2, .Name w p3] [] pos) (tE C X.mg H0 W (.eis i [w] false)) := by
  refine ⟨fun pins s σ H Q I hq => ?_⟩
  obtain ⟨B, ρ, γ, S, hq⟩ := hq
  rw [ev] at hq
  obtain ⟨d, hd, hq⟩ := hq.opt
  unfold eisF at hd
  split at hd
  · rename_i L c fs e
    split at hd
    · rename_i hk
      cases hd
      rw [List.all_cons, List.all_nil, Bool.and_true] at hk
      obtain ⟨a, od, s1, s2, s3⟩ := S.er i L c fs e
      obtain ⟨oe, D, t1, t2, t3, T⟩ := ok.er _ _ _ _ s2
      obtain ⟨v, u, q1, q2, q3⟩ := pe_clsN ok T hk h3
      obtain ⟨g1, g2, g3⟩ := ok.gl h1
      refine (pe_callB (call_isA t1 t2 t3 T.2.1 q2 q3) g1 (ok.bt _ (by decide +kernel)) (by decide +kernel) (pa_cons (ok.name h2) (pa_cons (q1 p3) pa_nil (starEach_cons rfl)) (starEach_cons rfl)) g3 g2 (starEach_cons rfl) rfl).run pins s σ H Q I ?_
      refine ⟨_, s1, ?_⟩
      refine ⟨rfl, s3.xd, ?_⟩
      have := hq (.bl (subE c w || false)) B H (Ext.refl S.sub) S.gh (.bl _)
      rw [Bool.or_false] at this
      exact this
    · cases hd
  · cases hd
theorem c_eisL (ok : XOk G X N sc k C) {i : Nat} {z : Str} {cs : List Str} {ws : List Expr} {kt : Nat} {p p2 p3 : Pos} (h1 : glB sc "isinstance" = true) (h2 : nameB N sc i z = true) (h3 : clsNames sc cs ws = true) (h4 : cs.length ≤ 60) : PE X (.Call (.Name "isinstance" p) [.Name z p2, .Tuple ws kt p3] [] pos) (tE C X.mg H0 W (.eis i cs true)) := by
  refine ⟨fun pins s σ H Q I hq => ?_⟩
  obtain ⟨B, ρ, γ, S, hq⟩ := hq
  rw [ev] at hq
  obtain ⟨d, hd, hq⟩ := hq.opt
  unfold eisF at hd
  split at hd
  · rename_i L c fs e
    split at hd
    · rename_i hk
      cases hd
      obtain ⟨a, od, s1, s2, s3⟩ := S.er i L c fs e
      obtain ⟨oe, D, t1, t2, t3, T⟩ := ok.er _ _ _ _ s2
      obtain ⟨vs, us, q1, q2, q3, q4⟩ := pa_clsN ok T h3 hk
      obtain ⟨g1, g2, g3⟩ := ok.gl h1
      refine (pe_callB (call_isL t1 t2 t3 T.2.1 q2 q3) g1 (ok.bt _ (by decide +kernel)) (by decide +kernel) (pa_cons (ok.name h2) (pa_cons (pe_tup q1) pa_nil (starEach_cons rfl)) (starEach_cons rfl)) g3 g2 (starEach_cons rfl) rfl).run pins s σ H Q I ?_
      refine ⟨_, s1, ?_⟩
      refine ⟨by rw [q4, sizeLine_eq]; omega, fun q hq0 => ?_⟩
      have x1 : Ext C.U B H B (upd H q (.tup vs)) := Ext.alloc S.sub hq0
      refine ⟨q, rfl, upd_same, (s3.ext x1).xd, ?_⟩
      exact hq (.bl _) B _ x1 (C.stayE S.gh hq0) (.bl _)
    · cases hd
  · cases hd
theorem c_efl (ok : XOk G X N sc k C) {i : Nat} {z f : Str} {p : Pos} (h2 : nameB N sc i z = true) : PE X (.Attribute (.Name z p) f pos) (tE C X.mg H0 W (.efl i f)) := by
  refine ⟨fun pins s σ H Q I hq => ?_⟩
  obtain ⟨B, ρ, γ, S, hq⟩ := hq
  rw [ev] at hq
  obtain ⟨d, hd, hq⟩ := hq.opt
  unfold eflF at hd
  split at hd
  · rename_i L c g d0 e
    split at hd
    · rename_i hk
      cases hd
      obtain ⟨rfl, hfl⟩ := hk
      obtain ⟨a, od, s1, s2, s3⟩ := S.er i L c _ e
      obtain ⟨oe, D, t1, t2, t3, T⟩ := ok.er _ _ _ _ s2
      cases od with
      | none => exact s3.elim
      | some pd =>
        obtain ⟨v, e1, e2, e3, e4⟩ := s3
        refine attr_of rfl (thn ((ok.name h2).run pins s σ H (fun x H1 => x = .ref a ∧ H1 = H) I ⟨_, s1, rfl, rfl⟩) fun u s1 hh => ?_)
        obtain ⟨x, H1, I1, rx, rfl, rfl⟩ := hh
        obtain rfl : u = Value.ref a := rx
        obtain ⟨hget, _⟩ := I1.pin (a, oe) (List.mem_append.mpr (.inl t1))
        obtain ⟨vs, hv⟩ := t3
        have hn : PySem.W.notCls oe = true := by unfold PySem.W.notCls; rw [hv] <;> rfl
        have hxx : ObjOk X.prog X.w H1 s1.heap pd (.xd [(f, v)]) := I1.hok pd _ e1
        obtain ⟨mA, hns, hr⟩ := hxx
        obtain ⟨od, ho, hl⟩ := lookIn_ns hns
        have l : List.lookup f [(f, v)] = some v := by simp [List.lookup]
        obtain ⟨u, hu, ru⟩ := RelO.some_of (v := v) (o := mA f) (by rw [← l]; exact hr f)
        have J : PySem.W.InstAt s1.heap a oe D (some od) := ⟨hget, t2.1, hn, by rw [t2.2]; exact ho⟩
        obtain ⟨_, _, _, ga, gg, gs, gd, gn⟩ := T
        exact HandSPX.exc_get I1.kIn J ga gg gs (PySem.W.findObj_own gd (gn f hfl) rfl (by rw [hl, hu])) (handed_of ru) ⟨v, H1, I1.tok _, ru, hq v B H1 (Ext.refl S.sub) S.gh e4⟩
    · cases hd
  · cases hd
end
end PyI

set_option maxRecDepth 100000
set_option maxHeartbeats 0
/-! PyI, part L: comprehensions, and every expression. -/
namespace PyI
open PySem PySem.Spec PyProof.Rows L2
variable {G : Gho → Prop}

theorem lookup_rel {f : Str → Bool} : ∀ {names : List (Str × NameKind)} {x : Str} {q : NameKind}, names.lookup x = some q →
    ∃ q', (names.map fun (n, k) => if (k == NameKind.free && f n) = true then (n, NameKind.cell) else (n, k)).lookup x = some q' ∧ (q' = q ∨ (q = .free ∧ q' = .cell))
  | [], _, _, h => by simp at h
  | (n, k) :: r, x, q, h => by
    rw [List.map_cons]
    cases hx : x == n with
    | true =>
      simp only [List.lookup_cons, hx] at h
      cases h
      by_cases hc : (k == NameKind.free && f n) = true
      · simp only [if_pos hc, List.lookup_cons, hx]
        simp only [Bool.and_eq_true, beq_iff_eq] at hc
        exact ⟨_, rfl, .inr ⟨hc.1, rfl⟩⟩
      · simp only [if_neg hc, List.lookup_cons, hx]
        exact ⟨_, rfl, .inl rfl⟩
    | false =>
      simp only [List.lookup_cons, hx] at h
      obtain ⟨q', h1, h2⟩ := lookup_rel (f := f) h
      refine ⟨q', ?_, h2⟩
      by_cases hc : (k == NameKind.free && f n) = true
      · simp only [if_pos hc, List.lookup_cons, hx]; exact h1
      · simp only [if_neg hc, List.lookup_cons, hx]; exact h1

section
variable {X : Cx} {N : List Str} {sc : Scope} {k : Nat} {C : Gho} {W : WX} {H0 : Hp} {pos : Pos}
abbrev W0 : WX := fun _ _ _ _ => False
theorem takes0 {X : Cx} : Takes X W0 := fun u s' h => by
  obtain ⟨_, _, _, _, h⟩ := h
  first | exact h.elim | (simp only [W0, and_false, false_and, exists_false] at h)
theorem XOk.blk (ok : XOk G X N sc k C) (hcm : calmB sc = true) (scope : Scope) (s : Shared) (H : Hp) (D : Addr) (cl : List (Str × Addr)) (fp : List Addr) : XOk G (X.blk s H scope (compEnvC scope cl D X.env) fp) N scope k C where
  hN := ok.hN
  nd := ok.nd
  sc := fun x q h => by
    have := lookup_rel (f := fun n => X.env.scope.kind == .function && X.env.kindOf n == some .cell) h
    obtain ⟨q', h1, h2⟩ := this
    refine ⟨q', ?_, h2⟩
    rw [← h1]
    show List.lookup x (relabel scope X.env).names = _
    unfold relabel
    simp only [Bool.and_assoc]
  calm := fun _ => ok.calm hcm
  nr := fun _ => ok.nr hcm
  er := fun L c a od h => (ok.nr hcm L c a od h).elim
  gd := ok.gd
  room := fun _ => ok.room hcm
  unt := ok.unt
  hK := ok.hK
  hG := ok.hG
  hn := ok.hn
  bt := ok.bt
  fn := fun x h => by
    show (scope.names.lookup x == some .cell) = true
    rw [h]; rfl
theorem blk_own (tg : Tg) : (blkN N tg).map (·.2) = tg.slots := by
  unfold blkN
  rw [List.map_map]
  exact List.map_id' _
def tAll (C : Gho) (mg : Str → Option Value) (H0 : Hp) (W : WX) (es : List E) : TT := fun σ H Q => ∃ B ρ γ, St C H0 B σ H ρ γ ∧ Fin C mg W B σ H (evAll es ρ γ) fun b g => DoneT C B H g b Q
theorem all_nil : PTs X [] (tAll C X.mg H0 W []) := by
  refine ⟨fun pins s σ H Q I hq => ?_⟩
  obtain ⟨B, ρ, γ, S, hq⟩ := hq
  rw [evAll] at hq
  exact pts_nil.run pins s σ H Q I (hq B H (Ext.refl S.sub) S.gh)
theorem all_one {e : E} {x : Expr} (he : PT X x (tT C X.mg H0 W e)) : PTs X [x] (tAll C X.mg H0 W [e]) := by
  refine ⟨fun pins s σ H Q I hq => ?_⟩
  obtain ⟨B, ρ, γ, S, hq⟩ := hq
  rw [evAll] at hq
  refine (pts_one he).run pins s σ H Q I ⟨B, ρ, γ, S, hq.bind.imp fun d g h1 => ?_⟩
  cases d <;> first | exact h1.elim | skip
  rename_i b
  cases b with
  | true => rw [evAll] at h1; exact ⟨true, rfl, h1⟩
  | false => exact ⟨false, rfl, h1⟩
theorem lcL_cons {step : D → D → R (Option D)} {x : D} {xs rest : List D} {g gz : D} (h : lcL step (x :: xs) g = .ok rest gz) : ∃ o g1 ys, step x g = .ok o g1 ∧ lcL step xs g1 = .ok ys gz ∧ rest = (match o with | some y => y :: ys | none => ys) := by
  rw [lcL] at h
  cases h1 : step x g with
  | ok o g1 =>
    rw [h1] at h
    cases h2 : lcL step xs g1 with
    | ok ys g2 =>
      simp only [R.bind, h2] at h
      cases h
      exact ⟨o, g1, ys, rfl, h2, rfl⟩
    | exc c fs g2 => simp only [R.bind, h2] at h; cases h
    | no => simp only [R.bind, h2] at h; cases h
  | exc c fs g2 => rw [h1] at h; cases h
  | no => rw [h1] at h; cases h

theorem pr_of {N : List Str} {sc : Scope} {tg : Tg} {tg' : Expr} {it : I} (ht : mTg N sc tg tg' = true) (h : (isTup tg' || plainI it) = true) : (!plainI it) = true → ∃ is, tg = .tup is := fun hp => by
  rw [Bool.not_eq_true'] at hp
  rw [hp, Bool.or_false] at h
  cases tg' <;> first | (cases h; done) | skip
  cases tg with
  | one i => simp [mTg] at ht
  | tup is => exact ⟨is, rfl⟩
theorem lc_imp (ok : XOk G X N sc k C) {tg : Tg} {it : I} (hpr : (!plainI it) = true → ∃ is, tg = .tup is) {ifs : List E} {elt : E} {σ : L2.St} {H : Hp} {Q : VK} (hk : (kd elt).le .clean = true) (hq : tE C X.mg H0 W (.lc tg it ifs elt) σ H Q) :
    tLc (tI C X.mg H0 W it) (gTg X.K tg) (tAll C X.mg H0 W0 ifs) (tE C X.mg H0 W0 elt) tg.slots σ H Q := by
  obtain ⟨B, ρ, γ, S, hq⟩ := hq
  rw [ev] at hq
  refine ⟨B, ρ, γ, S, hq.bind.imp fun xs g1 h1 => ?_⟩
  split at h1
  rotate_left
  · exact h1.elim
  rename_i hsz
  generalize hst : (fun (x g2 : D) => match bindT tg x (wipeE ρ tg.slots) with
        | some ρ1 => (evAll ifs ρ1 g2).bind fun b g3 => if b = true then (ev elt ρ1 g3).bind fun y g4 => R.ok (some y) g4 else R.ok none g3
        | none => R.no) = step at h1
  cases hL : lcL step xs g1 with
  | no => rw [hL] at h1; exact h1.elim
  | exc c fs g => rw [hL] at h1; exact h1.elim
  | ok zs gz =>
    rw [hL] at h1
    have hdone : Done C B H gz .fresh (.lst zs) Q := h1
    intro J B1 H1 src x1 rg1 ksrc hsrc drv dl hD
    have hDU : ¬ C.U dl := fun u => C.has _ _ _ rg1 u hD
    have hHD : H dl = none := x1.none_before hD
    let Pv : Nat → Hp → Prop := fun i Hc => ∃ (Bc : Hp) (accV : List V) (accD rest : List PyI.D) (gc : PyI.D), lcL step (xs.drop i) gc = .ok rest gz ∧ zs = accD ++ rest ∧ Hc dl = some (.lst accV) ∧ Reps C.K C.hv Bc accV accD ∧ accD.length ≤ i ∧ Bc dl = none ∧
      Ext C.U B H Bc Hc ∧ Same B1 Bc ∧ C.rep gc Hc ∧ ∀ a ∈ src, Hc a = H1 a
    refine ⟨fun i m Hc => m = xs.length - i ∧ i ≤ xs.length ∧ Pv i Hc, ⟨xs.length, rfl, Nat.zero_le _, B1, [], [], zs, g1, hL, rfl, upd_same, .nil, Nat.le_refl _, x1.s.free hD, x1.poke hHD (x1.s.free hD), Same.refl _, C.stayP rg1 hDU, fun a ha => upd_ne fun e => (hsrc a ha).1 (by rw [e]; exact hD)⟩, ?_⟩
    rintro i m Hc ⟨rfl, hi, Bc, accV, accD, rest, gc, e1, e2, e3, e4, e5, e6, e7, e8, e9, e10⟩
    by_cases hlt : i < xs.length
    · refine .inr ⟨drv.go i Bc Hc e8 e7.s e10 hlt, Pv (i + 1), fun H' p => ⟨xs.length - (i + 1), by omega, rfl, hlt, p⟩, fun x H' hy => ?_⟩
      obtain ⟨B', d, hd, xy, stay, rd⟩ := drv.yld i Bc Hc x H' e8 e7.s e10 hlt hy
      have hdr : xs.drop i = d :: xs.drop (i + 1) := by
        rw [List.drop_eq_getElem_cons hlt]
        rw [List.getElem?_eq_getElem hlt] at hd
        cases hd; rfl
      rw [hdr] at e1
      obtain ⟨o, g2, ys, s1, s2, rfl⟩ := lcL_cons e1
      rw [← hst] at s1
      have gy : C.rep gc H' := C.stay _ _ _ e9 fun a hu => stay a (C.has _ _ _ e9 hu)
      have xy' := e7.trans xy
      have S1 : St C H0 B' (L2.wipe σ tg.slots) H' (wipeE ρ tg.slots) gc := (S.ext xy' gy).wipe tg.slots
      have eD : H' dl = some (.lst accV) := by rw [stay dl (by rw [e3]; exact fun z => nomatch z)]; exact e3
      have nD : ∀ {B2 H2 : Hp}, Ext C.U B' H' B2 H2 → B2 dl = none ∧ H2 dl = some (.lst accV) := by
        intro B2 H2 y
        refine ⟨?_, y.keep _ _ eD hDU⟩
        cases q : B2 dl with
        | none => rfl
        | some u =>
          rcases y.new dl u q with z | ⟨_, z⟩
          · rcases xy.new dl u z with z | ⟨_, z⟩
            · rw [e6] at z; cases z
            · rw [e3] at z; cases z
          · rw [eD] at z; cases z
      have sr : ∀ {B2 H2 : Hp}, Ext C.U B' H' B2 H2 → ∀ a ∈ src, H2 a = H1 a := by
        intro B2 H2 y a ha
        obtain ⟨n1, n2⟩ := hsrc a ha
        cases q : H1 a with
        | none => exact absurd q n1
        | some u =>
          have q2 : Hc a = some u := by rw [e10 a ha]; exact q
          exact y.keep a u (by rw [stay a (by rw [q2]; exact fun z => nomatch z)]; exact q2) n2
      simp only at s1
      cases hbt : bindT tg d (wipeE ρ tg.slots) with
      | none => simp only [hbt] at s1; cases s1
      | some ρ1 =>
        simp only [hbt] at s1
        refine gTg_ok ok.hK hbt hpr rd S1 fun σ2 S2 w1 w2 => ⟨wipe_same (fun j hj => ?_) ?_, ?_⟩
        · rw [w1 j hj, wipe_get, if_neg fun q => hj q.1]
        · rw [w2, wipe_length]
        cases hA : evAll ifs ρ1 gc with
        | no => rw [hA] at s1; cases s1
        | exc c fs g => rw [hA] at s1; cases s1
        | ok b g3 =>
          rw [hA] at s1
          refine ⟨B', ρ1, gc, S2, ?_⟩
          rw [hA]
          intro B3 H3 x3 r3
          cases b with
          | false =>
            rw [if_neg Bool.false_ne_true]
            have s1 : R.ok none g3 = R.ok o g2 := s1
            cases s1
            obtain ⟨n1, n2⟩ := nD x3
            exact ⟨B3, accV, accD, ys, _, s2, e2, n2, Reps.mono (xy.b.trans x3.b) _ _ e4, by omega, n1, xy'.trans x3, e8.trans (xy.b.trans x3.b), r3, sr x3⟩
          | true =>
            rw [if_pos rfl]
            have s1 : (ev elt ρ1 g3).bind (fun y g4 => R.ok (some y) g4) = R.ok o g2 := s1
            cases hE : ev elt ρ1 g3 with
            | no => rw [hE] at s1; cases s1
            | exc c fs g => rw [hE] at s1; cases s1
            | ok y g4 =>
              rw [hE] at s1
              have s1 : R.ok (some y) g4 = R.ok o g2 := s1
              cases s1
              refine ⟨B3, ρ1, g3, S2.ext x3 r3, ?_⟩
              rw [hE]
              refine Done.le (k := .clean) hk fun v B4 H4 x4 r4 rv => ?_
              have x34 := x3.trans x4
              obtain ⟨n1, n2⟩ := nD x34
              refine ⟨accV, n2, ?_, ?_⟩
              · rw [e4.length]; omega
              · refine ⟨B4, accV ++ [v], accD ++ [y], ys, _, s2, ?_, upd_same, Reps.append (Reps.mono (xy.b.trans x34.b) _ _ e4) (.cons rv .nil), ?_, n1, (xy'.trans x34).poke hHD n1, e8.trans (xy.b.trans x34.b), C.stayP r4 hDU, ?_⟩
                · rw [e2, List.append_assoc]; rfl
                · rw [List.length_append, List.length_singleton]; omega
                · intro a ha
                  rw [upd_ne fun e => (hsrc a ha).1 (by rw [e]; exact hD)]
                  exact sr x34 a ha
    · obtain rfl : i = xs.length := Nat.le_antisymm hi (Nat.le_of_not_lt hlt)
      rw [List.drop_length, lcL] at e1
      cases e1
      rw [List.append_nil] at e2
      subst e2
      exact .inl ⟨drv.stop Bc Hc e8 e7.s e10, hdone (.ref dl) Bc Hc e7 e9 ⟨dl, accV, rfl, hHD, e6, e3, e4⟩⟩

theorem lc_blk (ok : XOk G X N sc k C) {scope : Scope} {tg : Tg} (hb : blkC N sc scope (blkN N tg) = true) : BlkOk X.N X.env.scope scope (blkN N tg) := by
  have b := blkOk_by hb
  refine ⟨b.kind, b.uniq, by rw [ok.hN]; exact b.ix, fun y hy e => ?_, by rw [ok.hN]; exact b.own⟩
  rcases b.free y hy e with h | h
  · obtain ⟨q', h1, h2⟩ := ok.sc _ _ h
    rcases h2 with rfl | ⟨h2, _⟩
    · exact .inl h1
    · cases h2
  · obtain ⟨q', h1, h2⟩ := ok.sc _ _ h
    rcases h2 with rfl | ⟨_, rfl⟩
    · exact .inr h1
    · exact .inl h1
theorem lc_fold {it' : Expr} {env : PySem.Env} (hs : notSet it' = true) : ∀ x, foldedSetIterable it' env x = pure x := by
  intro x
  cases it' <;> first | rfl | (cases hs; done)
theorem c_lc (ok : XOk G X N sc k C) (hcm : calmB sc = true) {tg : Tg} {it : I} (hpr : (!plainI it) = true → ∃ is, tg = .tup is) {ifs : List E} {elt : E} {tg' it' elt' : Expr} {ifs' : List Expr} {scope : Scope} (hb : blkC N sc scope (blkN N tg) = true) (ht : mTg N scope tg tg' = true) (hs : notSet it' = true) (hk : (kd elt).le .clean = true)
    (hi : PI X tg' it' (tI C X.mg H0 W it)) (hifs : ∀ (s : Shared) (H : Hp) (D : Addr) (cl : List (Str × Addr)) (fp : List Addr), PTs (X.blk s H scope (compEnvC scope cl D X.env) fp) ifs' (tAll C X.mg H0 W0 ifs))
    (he : ∀ (s : Shared) (H : Hp) (D : Addr) (cl : List (Str × Addr)) (fp : List Addr), PE (X.blk s H scope (compEnvC scope cl D X.env) fp) elt' (tE C X.mg H0 W0 elt)) :
    PE X (.ListComp elt' [⟨tg', it', ifs', 0⟩] scope pos) (tE C X.mg H0 W (.lc tg it ifs elt)) := by
  refine ⟨fun pins s σ H Q I hq => ?_⟩
  refine (pe_lc (g := gTg X.K tg) (tt := tAll C X.mg H0 W0 ifs) (te := tE C X.mg H0 W0 elt) (ok.calm hcm) ok.nd hi (lc_blk ok hb) (fun s H D cl fp => g_tg (ok.blk hcm scope s H D cl fp) ht) hifs he (lc_fold hs)).run pins s σ H Q I ?_
  rw [blk_own]
  exact lc_imp ok hpr hk hq
/-! ### every expression -/
theorem mEs_len : ∀ {es : List E} {xs : List Expr}, mEs N sc es xs = true → es.length = xs.length
  | [], [], _ => rfl
  | [], _ :: _, h => by simp [mEs] at h
  | _ :: _, [], h => by simp [mEs] at h
  | e :: es, x :: xs, h => by
    simp only [mEs, Bool.and_eq_true] at h
    simp [mEs_len h.2]
theorem mKs_cons : ∀ {q : Cn} {ks : List Cn} {y : Option Expr} {keys : List (Option Expr)}, mKs (q :: ks) (y :: keys) = true → ∃ c j p, y = some (.Constant c j p) ∧ constB q c = true ∧ mKs ks keys = true
  | q, ks, some (.Constant c j p), keys, h => by
    rw [mKs, Bool.and_eq_true] at h
    exact ⟨c, j, p, rfl, h.1, h.2⟩
def special : E → Bool
  | .not _ | .and _ | .or _ | .ife _ _ _ | .cmp _ _ _ | .chain _ _ _ _ _ => true
  | .call f _ _ => isDot f
  | _ => false
theorem plain_of {e : E} {x : Expr} (h : mE N sc e x = true) (hs : special e = false) : plainTest x = true := by
  cases e
  case call f m es =>
    unfold mE at h
    rw [show isDot f = false from hs, if_neg Bool.false_ne_true] at h
    split at h <;> first | rfl | (cases h; done)
  all_goals first | (cases hs; done) | (unfold mE at h; split at h <;> first | rfl | (cases h; done)) | (unfold mE at h; cases h; done)
end
theorem star_of {N : List Str} {sc : Scope} {e : E} {x : Expr} (h : mE N sc e x = true) : notStar x = true := by
  cases e
  case call f m es =>
    unfold mE at h
    split at h
    · split at h
      · simp only [Bool.and_eq_true] at h
        exact h.1.1.1.2
      · cases h
    · split at h <;> first | rfl | (cases h; done)
  all_goals first | (unfold mE at h; split at h <;> first | rfl | (cases h; done)) | (unfold mE at h; cases h; done)
theorem enumT {tg' : Expr} {it : I} (h : (isTup tg' || plainI it) = true) (hp : plainI it = false) : ∃ xs k p, tg' = .Tuple xs k p := by
  rw [hp, Bool.or_false] at h
  cases tg' <;> first | exact ⟨_, _, _, rfl⟩ | cases h
def P_sE (G : Gho → Prop) (e : E) : Prop := ∀ {X : Cx} {N : List Str} {sc : Scope} {k : Nat} {C : Gho} {W : WX} {H0 : Hp} {x : Expr}, XOk G X N sc k C → Takes X W → mE N sc e x = true → allE (Knows G X.prog X.w X.K X.mg X.base k) (Names X.K X.mg C) e → PE X x (tE C X.mg H0 W e)
def P_sCv (G : Gho → Prop) (it : I) : Prop := ∀ {X : Cx} {N : List Str} {sc : Scope} {k : Nat} {C : Gho} {W : WX} {H0 : Hp} {f : BI} {x : Expr} {p pos : Pos}, XOk G X N sc k C → calmB sc = true → Takes X W → (f = .tuple ∨ f = .list) → glB sc f.name = true → isRng it = true → mI N sc it x = true → allI (Knows G X.prog X.w X.K X.mg X.base k) (Names X.K X.mg C) it → PE X (.Call (.Name f.name p) [x] [] pos) (tE C X.mg H0 W (.cv f it))
def P_sP (G : Gho → Prop) (es : List E) : Prop := ∀ {X : Cx} {N : List Str} {sc : Scope} {k : Nat} {C : Gho} {W : WX} {H0 : Hp} {ks : List Cn} {keys : List (Option Expr)} {xs : List Expr} {pos : Pos}, XOk G X N sc k C → Takes X W → mKs ks keys = true → mEs N sc es xs = true → keys.length = xs.length → allEs (Knows G X.prog X.w X.K X.mg X.base k) (Names X.K X.mg C) es → PPs X pos keys xs (trsOf C X.mg H0 W ks es)
def P_sT (G : Gho → Prop) (e : E) : Prop := ∀ {X : Cx} {N : List Str} {sc : Scope} {k : Nat} {C : Gho} {W : WX} {H0 : Hp} {x : Expr}, XOk G X N sc k C → Takes X W → mE N sc e x = true → allE (Knows G X.prog X.w X.K X.mg X.base k) (Names X.K X.mg C) e → PT X x (tT C X.mg H0 W e)
def P_sC (G : Gho → Prop) (es : List E) : Prop := ∀ {X : Cx} {N : List Str} {sc : Scope} {k : Nat} {C : Gho} {W : WX} {H0 : Hp} {xs : List Expr}, XOk G X N sc k C → Takes X W → mEs N sc es xs = true → noB (kds es) = true → allEs (Knows G X.prog X.w X.K X.mg X.base k) (Names X.K X.mg C) es → PA X xs (tAc C X.mg H0 W es)
def P_sB (G : Gho → Prop) (es : List E) : Prop := ∀ {X : Cx} {N : List Str} {sc : Scope} {k : Nat} {C : Gho} {W : WX} {H0 : Hp} {xs : List Expr}, XOk G X N sc k C → Takes X W → mEs N sc es xs = true → allEs (Knows G X.prog X.w X.K X.mg X.base k) (Names X.K X.mg C) es → PA X xs (tAb C X.mg H0 W es)
def P_sO (G : Gho → Prop) (o : Option E) : Prop := ∀ {X : Cx} {N : List Str} {sc : Scope} {k : Nat} {C : Gho} {W : WX} {H0 : Hp} {x : Option Expr}, XOk G X N sc k C → Takes X W → mO N sc o x = true → allO (Knows G X.prog X.w X.K X.mg X.base k) (Names X.K X.mg C) o → PO X x (tO C X.mg H0 W o)
def P_sAnd (G : Gho → Prop) (es : List E) : Prop := ∀ {X : Cx} {N : List Str} {sc : Scope} {k : Nat} {C : Gho} {W : WX} {H0 : Hp} {xs : List Expr} {pos : Pos}, XOk G X N sc k C → Takes X W → mEs N sc es xs = true → allEs (Knows G X.prog X.w X.K X.mg X.base k) (Names X.K X.mg C) es → es ≠ [] → PE X (.BoolOp .And xs pos) (tAndE C X.mg H0 W es)
def P_sOr (G : Gho → Prop) (es : List E) : Prop := ∀ {X : Cx} {N : List Str} {sc : Scope} {k : Nat} {C : Gho} {W : WX} {H0 : Hp} {xs : List Expr} {pos : Pos}, XOk G X N sc k C → Takes X W → mEs N sc es xs = true → allEs (Knows G X.prog X.w X.K X.mg X.base k) (Names X.K X.mg C) es → es ≠ [] → PE X (.BoolOp .Or xs pos) (tOrE C X.mg H0 W es)
def P_sAndT (G : Gho → Prop) (es : List E) : Prop := ∀ {X : Cx} {N : List Str} {sc : Scope} {k : Nat} {C : Gho} {W : WX} {H0 : Hp} {xs : List Expr} {pos : Pos}, XOk G X N sc k C → Takes X W → mEs N sc es xs = true → allEs (Knows G X.prog X.w X.K X.mg X.base k) (Names X.K X.mg C) es → es ≠ [] → PW X (.BoolOp .And xs pos) (tAndT C X.mg H0 W es)
def P_sOrT (G : Gho → Prop) (es : List E) : Prop := ∀ {X : Cx} {N : List Str} {sc : Scope} {k : Nat} {C : Gho} {W : WX} {H0 : Hp} {xs : List Expr} {pos : Pos}, XOk G X N sc k C → Takes X W → mEs N sc es xs = true → allEs (Knows G X.prog X.w X.K X.mg X.base k) (Names X.K X.mg C) es → es ≠ [] → PW X (.BoolOp .Or xs pos) (tOrT C X.mg H0 W es)
def P_sAll (G : Gho → Prop) (es : List E) : Prop := ∀ {X : Cx} {N : List Str} {sc : Scope} {k : Nat} {C : Gho} {W : WX} {H0 : Hp} {xs : List Expr}, XOk G X N sc k C → Takes X W → mEs N sc es xs = true → xs.length ≤ 1 → allEs (Knows G X.prog X.w X.K X.mg X.base k) (Names X.K X.mg C) es → PTs X xs (tAll C X.mg H0 W es)
def P_sF (G : Gho → Prop) (es : List E) : Prop := ∀ {X : Cx} {N : List Str} {sc : Scope} {k : Nat} {C : Gho} {W : WX} {H0 : Hp} {xs : List Expr}, XOk G X N sc k C → Takes X W → mEs N sc es xs = true → allEs (Knows G X.prog X.w X.K X.mg X.base k) (Names X.K X.mg C) es → PEz C X H0 W es xs
def P_sI (G : Gho → Prop) (it : I) : Prop := ∀ {X : Cx} {N : List Str} {sc : Scope} {k : Nat} {C : Gho} {W : WX} {H0 : Hp} {tg x : Expr}, XOk G X N sc k C → Takes X W → mI N sc it x = true → (isTup tg || plainI it) = true → allI (Knows G X.prog X.w X.K X.mg X.base k) (Names X.K X.mg C) it → PI X tg x (tI C X.mg H0 W it)
theorem r_sE_c {q : Cn}  : P_sE G (.c q) := by
    intro X N sc k C W H0 x ok tk h al
    unfold mE at h; split at h
    · exact c_const h
    · cases h
theorem r_sE_v {i : Nat}  : P_sE G (.v i) := by
    intro X N sc k C W H0 x ok tk h al
    unfold mE at h; split at h
    · exact c_v ok h
    · cases h
theorem r_sE_vb {i : Nat}  : P_sE G (.vb i) := by
    intro X N sc k C W H0 x ok tk h al
    unfold mE at h; split at h
    · exact c_vb ok h
    · cases h
theorem r_sE_g {y : Str} {d : D}  : P_sE G (.g y d) := by
    intro X N sc k C W H0 x ok tk h al
    unfold mE at h; split at h
    · simp only [Bool.and_eq_true, decide_eq_true_eq] at h
      obtain ⟨rfl, h⟩ := h
      rw [allE] at al
      exact c_g ok h al
    · cases h
theorem r_sE_neg {a : E} (ih_sE_a : P_sE G a) : P_sE G (.neg a) := by
    intro X N sc k C W H0 x ok tk h al
    unfold mE at h; rw [allE] at al; split at h
    · exact c_neg (ih_sE_a ok tk h al)
    · cases h
theorem r_sE_not {a : E} (ih_sE_a : P_sE G a) : P_sE G (.not a) := by
    intro X N sc k C W H0 x ok tk h al
    unfold mE at h; rw [allE] at al; split at h
    · exact c_not (ih_sE_a ok tk h al)
    · cases h
theorem r_sE_bin {op : Bo} {a : E} {b : E} (ih_sE_a : P_sE G a) (ih_sE_b : P_sE G b) : P_sE G (.bin op a b) := by
    intro X N sc k C W H0 x ok tk h al
    unfold mE at h; rw [allE] at al; split at h
    · simp only [Bool.and_eq_true, decide_eq_true_eq] at h
      obtain ⟨⟨rfl, h1⟩, h2⟩ := h
      exact c_bin ok (ih_sE_a ok tk h1 al.1) (ih_sE_b ok tk h2 al.2)
    · cases h
theorem r_sE_cmp {op : Co} {a : E} {b : E} (ih_sE_a : P_sE G a) (ih_sE_b : P_sE G b) : P_sE G (.cmp op a b) := by
    intro X N sc k C W H0 x ok tk h al
    unfold mE at h; rw [allE] at al; split at h
    · simp only [Bool.and_eq_true, decide_eq_true_eq, Bool.not_eq_true'] at h
      obtain ⟨⟨⟨rfl, h0⟩, h1⟩, h2⟩ := h
      exact c_cmp ok h0 (ih_sE_a ok tk h1 al.1) (ih_sE_b ok tk h2 al.2)
    · cases h
theorem r_sE_chain {op : Co} {op2 : Co} {a : E} {b : E} {c : E} (ih_sE_a : P_sE G a) (ih_sE_b : P_sE G b) (ih_sE_c : P_sE G c) : P_sE G (.chain op op2 a b c) := by
    intro X N sc k C W H0 x ok tk h al
    unfold mE at h; rw [allE] at al; split at h
    · simp only [Bool.and_eq_true, decide_eq_true_eq, Bool.not_eq_true'] at h
      obtain ⟨⟨⟨⟨⟨rfl, rfl⟩, h0⟩, h1⟩, h2⟩, h3⟩ := h
      exact c_chain ok h0 (ih_sE_a ok tk h1 al.1) (ih_sE_b ok tk h2 al.2.1) (ih_sE_c ok tk h3 al.2.2)
    · cases h
theorem r_sE_and {es : List E} (ih_sAnd_es : P_sAnd G es) : P_sE G (.and es) := by
    intro X N sc k C W H0 x ok tk h al
    unfold mE at h; rw [allE] at al; split at h
    · rename_i xs p
      refine ⟨fun pins s σ H Q I hq => ?_⟩
      obtain ⟨B, ρ, γ, S, hq⟩ := hq
      rw [ev] at hq
      cases es with
      | nil => rw [evAnd] at hq; exact hq.elim
      | cons e es => exact (ih_sAnd_es ok tk h al (by simp)).run pins s σ H Q I ⟨B, ρ, γ, S, hq⟩
    · cases h
theorem r_sE_or {es : List E} (ih_sOr_es : P_sOr G es) : P_sE G (.or es) := by
    intro X N sc k C W H0 x ok tk h al
    unfold mE at h; rw [allE] at al; split at h
    · rename_i xs p
      refine ⟨fun pins s σ H Q I hq => ?_⟩
      obtain ⟨B, ρ, γ, S, hq⟩ := hq
      rw [ev] at hq
      cases es with
      | nil => rw [evOr] at hq; exact hq.elim
      | cons e es => exact (ih_sOr_es ok tk h al (by simp)).run pins s σ H Q I ⟨B, ρ, γ, S, hq⟩
    · cases h
theorem r_sE_ife {t : E} {a : E} {b : E} (ih_sT_t : P_sT G t) (ih_sE_a : P_sE G a) (ih_sE_b : P_sE G b) : P_sE G (.ife t a b) := by
    intro X N sc k C W H0 x ok tk h al
    unfold mE at h; rw [allE] at al; split at h
    · simp only [Bool.and_eq_true] at h
      exact c_ife (ih_sT_t ok tk h.1.1 al.1) (ih_sE_a ok tk h.1.2 al.2.1) (ih_sE_b ok tk h.2 al.2.2)
    · cases h
theorem r_sE_tup {es : List E} (ih_sC_es : P_sC G es) : P_sE G (.tup es) := by
    intro X N sc k C W H0 x ok tk h al
    unfold mE at h; rw [allE] at al; split at h
    · simp only [Bool.and_eq_true, decide_eq_true_eq] at h
      exact c_tup h.2 (ih_sC_es ok tk h.1.1 h.1.2 al)
    · cases h
theorem r_sE_lst {es : List E} (ih_sC_es : P_sC G es) : P_sE G (.lst es) := by
    intro X N sc k C W H0 x ok tk h al
    unfold mE at h; rw [allE] at al; split at h
    · simp only [Bool.and_eq_true, decide_eq_true_eq] at h
      exact c_lst h.2 (ih_sC_es ok tk h.1.1 h.1.2 al)
    · cases h
theorem r_sE_idx {a : E} {b : E} (ih_sE_a : P_sE G a) (ih_sE_b : P_sE G b) : P_sE G (.idx a b) := by
    intro X N sc k C W H0 x ok tk h al
    unfold mE at h; rw [allE] at al; split at h
    · simp only [Bool.and_eq_true] at h
      exact c_idx ok h.1.1 (ih_sE_a ok tk h.1.2 al.1) (ih_sE_b ok tk h.2 al.2)
    · cases h
theorem r_sE_slc {a : E} {lo : Option E} {hi : Option E} (ih_sE_a : P_sE G a) (ih_sO_lo : P_sO G lo) (ih_sO_hi : P_sO G hi) : P_sE G (.slc a lo hi) := by
    intro X N sc k C W H0 x ok tk h al
    unfold mE at h; rw [allE] at al; split at h
    · simp only [Bool.and_eq_true] at h
      exact c_slc ok (ih_sE_a ok tk h.1.1 al.1) (ih_sO_lo ok tk h.1.2 al.2.1) (ih_sO_hi ok tk h.2 al.2.2)
    · cases h
theorem r_sE_rev {a : E} (ih_sE_a : P_sE G a) : P_sE G (.rev a) := by
    intro X N sc k C W H0 x ok tk h al
    unfold mE at h; rw [allE] at al; split at h
    · simp only [Bool.and_eq_true, decide_eq_true_eq] at h
      obtain ⟨rfl, h1⟩ := h
      exact c_rev ok (ih_sE_a ok tk h1 al)
    · cases h
theorem c_callH {X : Cx} {N : List Str} {sc : Scope} {k : Nat} {C : Gho} {W : WX} {H0 : Hp} {pos : Pos} {f : Str} {m : Sem} {es : List E} {xs : List Expr} {p : Pos} (ok : XOk G X N sc k C) (hcm : calmB sc = true) (tk : Takes X W) (kn : KnowsH G X.prog X.w X.K X.mg X.base k f m) (hg : glB sc f = true) (hm : mEs N sc es xs = true) (ha : PA X xs (tAc C X.mg H0 W es)) :
    PE X (.Call (.Name f p) xs [] pos) (tE C X.mg H0 W (.call f m es)) := by
  obtain ⟨j, a, hj, F, hmg, hk⟩ := kn
  obtain ⟨g1, g2, _⟩ := ok.gl hg
  refine ⟨fun pins s σ H Q I hq => ?_⟩
  obtain ⟨B, ρ, γ, S, hq⟩ := hq
  rw [ev] at hq
  have go : tAc C X.mg H0 W es σ H (fun vs H1 => spH G X.K X.mg m vs H1 Q fun cls od H' => W cls od σ H') := by
    refine ⟨B, ρ, γ, S, hq.bind.imp fun ds g h1 vs B1 H1 x1 g1 r1 => ?_⟩
    refine ⟨C, B1, g, ds, ok.hK, ok.hG, ok.hn, x1.s, g1, (S.ext x1 g1).uB, ok.nr hcm, r1, ?_⟩
    cases hr : m ds g with
    | ok d g2 =>
      rw [hr] at h1
      exact (show Done C B H g2 .clean d Q from h1).ext x1
    | exc c fs g2 =>
      rw [hr] at h1
      exact fun cls od B' H' y g' e => h1 cls od B' H' (x1.trans y) g' e
    | no => rw [hr] at h1; exact h1.elim
  have hr := (ok.room hcm).mono hj
  refine wpAny_Call_Name_kw (ld_glob I g1 hmg ?_ g2)
  cases xs with
  | nil =>
    cases es with
    | cons e es => simp [mEs] at hm
    | nil =>
      refine PySem.W.callWith_K0 I.kIn hk ?_
      obtain ⟨B, ρ, γ, S, hq⟩ := go
      rw [evs] at hq
      exact runH F ok.gd hr tk I .nil (hq [] B H (Ext.refl S.sub) S.gh .nil)
  | cons y ys =>
    cases es with
    | nil => simp [mEs] at hm
    | cons e es =>
      simp only [mEs, Bool.and_eq_true] at hm
      refine PySem.W.callWith_K (h₀ := X.base) I.ok.mod.kin hk (thn (ha.run pos pins s σ H _ I go) fun us s1 h1 => ?_) (starEach_cons hm.1.2) (mEs_plain hm.2 _ _)
      obtain ⟨vs, H1, I1, r, q⟩ := h1
      exact ⟨I1.kIn, runH F ok.gd hr tk I1 r q⟩
theorem sm3_of {f : Str} {es : List E} (h : smOk f es = true) : smOk f es = true := h
theorem isPat_dot {f : Str} (h : isPat f = true) : isDot f = true := by
  unfold isPat at h
  simp only [Bool.and_eq_true] at h
  exact h.1.1
theorem r_sE_call {f : Str} {m : Sem} {es : List E} (ih_sC_es : P_sC G es) (ih_sF_es : P_sF G es) : P_sE G (.call f m es) := by
    intro X N sc k C W H0 x ok tk h al
    unfold mE at h; rw [allE] at al; split at h
    · rename_i hd
      split at h
      · rename_i xs hx
        simp only [Bool.and_eq_true] at h
        rcases al.1 with ⟨hd2, _⟩ | ⟨_, kn⟩ | ⟨hd2, _⟩ | ⟨rfl, _⟩ | ⟨rfl, _⟩
        · rw [hd] at hd2; cases hd2
        · exact (kn ok h.1.1.1.1 tk rfl rfl rfl rfl rfl hx (sm3_of h.1.1.2) h.1.2 h.2 (ih_sF_es ok tk h.1.2 al.2)).1
        · rw [hd] at hd2; cases hd2
        · cases hx
        · cases hx
      · cases h
    · rename_i hd
      split at h
      · simp only [Bool.and_eq_true, decide_eq_true_eq] at h
        obtain ⟨⟨⟨⟨hcm, rfl⟩, h1⟩, h2⟩, h3⟩ := h
        rcases al.1 with ⟨_, kn⟩ | ⟨hd2, _⟩ | ⟨_, kn⟩ | ⟨rfl, _⟩ | ⟨rfl, _⟩
        · exact c_call ok hcm tk kn h1 h2 (ih_sC_es ok tk h2 h3 al.2)
        · exact absurd (isPat_dot hd2) hd
        · exact c_callH ok hcm tk kn h1 h2 (ih_sC_es ok tk h2 h3 al.2)
        · exact absurd rfl hd
        · exact absurd rfl hd
      · cases h
theorem r_sE_eis {i : Nat} {cs : List Str} {tp : Bool} : P_sE G (.eis i cs tp) := by
    intro X N sc k C W H0 x ok tk h al
    unfold mE at h; split at h
    · rename_i y p z p2 c' q
      simp only [Bool.and_eq_true, decide_eq_true_eq] at h
      obtain ⟨⟨⟨rfl, h1⟩, h2⟩, h3⟩ := h
      split at h3
      · simp only [Bool.and_eq_true, decide_eq_true_eq] at h3
        obtain ⟨rfl, h3⟩ := h3
        exact c_eis1 ok h1 h2 h3
      · simp only [Bool.and_eq_true, decide_eq_true_eq] at h3
        exact c_eisL ok h1 h2 h3.1 h3.2
      · cases h3
    · cases h
theorem r_sE_efl {i : Nat} {f : Str} : P_sE G (.efl i f) := by
    intro X N sc k C W H0 x ok tk h al
    unfold mE at h; split at h
    · simp only [Bool.and_eq_true, decide_eq_true_eq] at h
      obtain ⟨h1, rfl⟩ := h
      exact c_efl ok h1
    · cases h
theorem r_sE_bi {f : BI} {es : List E} (ih_sB_es : P_sB G es) : P_sE G (.bi f es) := by
    intro X N sc k C W H0 x ok tk h al
    unfold mE at h; rw [allE] at al; split at h
    · simp only [Bool.and_eq_true, decide_eq_true_eq] at h
      obtain ⟨⟨⟨hcm, rfl⟩, h1⟩, h2⟩ := h
      exact c_bi ok hcm h1 h2 (ih_sB_es ok tk h2 al)
    · cases h
theorem r_sE_isi {a : E} {t : Ty} (ih_sE_a : P_sE G a) : P_sE G (.isi a t) := by
    intro X N sc k C W H0 x ok tk h al
    unfold mE at h; rw [allE] at al; split at h
    · rename_i y p a' z p2 p3
      simp only [Bool.and_eq_true, decide_eq_true_eq] at h
      obtain ⟨⟨⟨⟨rfl, h1⟩, rfl⟩, h2⟩, h3⟩ := h
      have hs : notStar a' = true := star_of h3
      exact c_isi ok h1 h2 hs (ih_sE_a ok tk h3 al)
    · cases h
theorem r_sE_lenset {a : E} (ih_sE_a : P_sE G a) : P_sE G (.lenset a) := by
    intro X N sc k C W H0 x ok tk h al
    unfold mE at h; rw [allE] at al; split at h
    · simp only [Bool.and_eq_true, decide_eq_true_eq] at h
      obtain ⟨⟨⟨⟨⟨hcm, rfl⟩, h1⟩, rfl⟩, h2⟩, h3⟩ := h
      exact c_lenset ok hcm h1 h2 (star_of h3) (ih_sE_a ok tk h3 al)
    · cases h
theorem r_sE_mth {m : Mt} {o : E} {es : List E} (ih_sE_o : P_sE G o) (ih_sC_es : P_sC G es) : P_sE G (.mth m o es) := by
    intro X N sc k C W H0 x ok tk h al
    unfold mE at h; rw [allE] at al; split at h
    · simp only [Bool.and_eq_true, decide_eq_true_eq] at h
      obtain ⟨⟨⟨⟨⟨⟨rfl, h1⟩, h2⟩, h3⟩, h4⟩, h5⟩, h6⟩ := h
      exact c_mth ok h1 h2 h3 (mEs_st h5).1 (mEs_st h5).2 (ih_sE_o ok tk h4 al.1) (ih_sC_es ok tk h5 h6 al.2)
    · cases h
theorem r_sE_lc {tg : Tg} {it : I} {ifs : List E} {elt : E} (ih_sI_it : P_sI G it) (ih_sE_elt : P_sE G elt) (ih_sAll_ifs : P_sAll G ifs) : P_sE G (.lc tg it ifs elt) := by
    intro X N sc k C W H0 x ok tk h al
    unfold mE at h; rw [allE] at al; split at h
    · rename_i elt' tg' it' ifs' scope p
      simp only [Bool.and_eq_true, decide_eq_true_eq] at h
      obtain ⟨⟨⟨⟨⟨⟨⟨⟨⟨hcm, h1⟩, h2⟩, h3⟩, h4⟩, h5⟩, h6⟩, h7⟩, h8⟩, h9⟩ := h
      have hk : (kd elt).le .clean = true := by cases hh : kd elt <;> rw [hh] at h7 <;> first | rfl | cases h7
      refine c_lc ok hcm (pr_of h2 h9) h1 h2 h8 hk (ih_sI_it ok tk h3 h9 al.1) (fun s H D cl fp => ?_) (fun s H D cl fp => ih_sE_elt (ok.blk hcm scope s H D cl fp) takes0 h6 al.2.2)
      exact ih_sAll_ifs (ok.blk hcm scope s H D cl fp) takes0 h4 h5 al.2.1
    · cases h
theorem r_sE_cv {f : BI} {it : I} (ih_sCv_it : P_sCv G it) : P_sE G (.cv f it) := by
    intro X N sc k C W H0 x ok tk h al
    unfold mE at h; rw [allE] at al; split at h
    · simp only [Bool.and_eq_true, Bool.or_eq_true, decide_eq_true_eq] at h
      obtain ⟨⟨⟨⟨⟨hcm, rfl⟩, h1⟩, h2⟩, h3⟩, h4⟩ := h
      exact ih_sCv_it ok hcm tk h2 h1 h3 h4 al
    · cases h
theorem r_sE_dct {ks : List Cn} {es : List E} (ih_sP_es : P_sP G es) : P_sE G (.dct ks es) := by
    intro X N sc k C W H0 x ok tk h al
    unfold mE at h; rw [allE] at al; split at h
    · simp only [Bool.and_eq_true, decide_eq_true_eq] at h
      obtain ⟨⟨⟨⟨h1, h2⟩, h3⟩, h4⟩, h5⟩ := h
      exact c_dct h1 (mEs_len h2) h3 h4 h5 (ih_sP_es ok tk h1 h2 h5 al)
    · cases h
theorem r_sT_not {a : E} (ih_sT_a : P_sT G a) : P_sT G (.not a) := by
    intro X N sc k C W H0 x ok tk h al
    unfold mE at h; rw [allE] at al; split at h
    · exact t_not (ih_sT_a ok tk h al)
    · cases h
theorem r_sT_cmp {op : Co} {a : E} {b : E} (ih_sE_a : P_sE G a) (ih_sE_b : P_sE G b) : P_sT G (.cmp op a b) := by
    intro X N sc k C W H0 x ok tk h al
    unfold mE at h; rw [allE] at al; split at h
    · simp only [Bool.and_eq_true, decide_eq_true_eq, Bool.not_eq_true'] at h
      obtain ⟨⟨⟨rfl, h0⟩, h1⟩, h2⟩ := h
      exact t_cmp ok h0 (ih_sE_a ok tk h1 al.1) (ih_sE_b ok tk h2 al.2)
    · cases h
theorem r_sT_chain {op : Co} {op2 : Co} {a : E} {b : E} {c : E} (ih_sE_a : P_sE G a) (ih_sE_b : P_sE G b) (ih_sE_c : P_sE G c) : P_sT G (.chain op op2 a b c) := by
    intro X N sc k C W H0 x ok tk h al
    unfold mE at h; rw [allE] at al; split at h
    · simp only [Bool.and_eq_true, decide_eq_true_eq, Bool.not_eq_true'] at h
      obtain ⟨⟨⟨⟨⟨rfl, rfl⟩, h0⟩, h1⟩, h2⟩, h3⟩ := h
      exact t_chain ok h0 (ih_sE_a ok tk h1 al.1) (ih_sE_b ok tk h2 al.2.1) (ih_sE_c ok tk h3 al.2.2)
    · cases h
theorem r_sT_and {es : List E} (ih_sAndT_es : P_sAndT G es) : P_sT G (.and es) := by
    intro X N sc k C W H0 x ok tk h al
    unfold mE at h; rw [allE] at al; split at h
    · rename_i xs p
      refine ⟨fun pins s σ H Q I hq => ?_⟩
      obtain ⟨B, ρ, γ, S, hq⟩ := hq
      rw [ev] at hq
      cases es with
      | nil => rw [evAnd] at hq; exact hq.elim
      | cons e es => exact (ih_sAndT_es ok tk h al (by simp)).pt.run pins s σ H Q I ⟨B, ρ, γ, S, hq⟩
    · cases h
theorem r_sT_or {es : List E} (ih_sOrT_es : P_sOrT G es) : P_sT G (.or es) := by
    intro X N sc k C W H0 x ok tk h al
    unfold mE at h; rw [allE] at al; split at h
    · rename_i xs p
      refine ⟨fun pins s σ H Q I hq => ?_⟩
      obtain ⟨B, ρ, γ, S, hq⟩ := hq
      rw [ev] at hq
      cases es with
      | nil => rw [evOr] at hq; exact hq.elim
      | cons e es => exact (ih_sOrT_es ok tk h al (by simp)).pt.run pins s σ H Q I ⟨B, ρ, γ, S, hq⟩
    · cases h
theorem r_sT_ife {t : E} {a : E} {b : E} (ih_sT_t : P_sT G t) (ih_sT_a : P_sT G a) (ih_sT_b : P_sT G b) : P_sT G (.ife t a b) := by
    intro X N sc k C W H0 x ok tk h al
    unfold mE at h; rw [allE] at al; split at h
    · simp only [Bool.and_eq_true] at h
      exact t_ife (ih_sT_t ok tk h.1.1 al.1) (ih_sT_a ok tk h.1.2 al.2.1) (ih_sT_b ok tk h.2 al.2.2)
    · cases h
theorem r_sT_c {q : Cn} (self : P_sE G (.c q)) : P_sT G (.c q) := by
    intro X N sc k C W H0 x ok tk h al
    exact t_val (plain_of h rfl) (self ok tk h al)
theorem r_sT_v {i : Nat} (self : P_sE G (.v i)) : P_sT G (.v i) := by
    intro X N sc k C W H0 x ok tk h al
    exact t_val (plain_of h rfl) (self ok tk h al)
theorem r_sT_vb {i : Nat} (self : P_sE G (.vb i)) : P_sT G (.vb i) := by
    intro X N sc k C W H0 x ok tk h al
    exact t_val (plain_of h rfl) (self ok tk h al)
theorem r_sT_g {y : Str} {d : D} (self : P_sE G (.g y d)) : P_sT G (.g y d) := by
    intro X N sc k C W H0 x ok tk h al
    exact t_val (plain_of h rfl) (self ok tk h al)
theorem r_sT_neg {a : E} (self : P_sE G (.neg a)) : P_sT G (.neg a) := by
    intro X N sc k C W H0 x ok tk h al
    exact t_val (plain_of h rfl) (self ok tk h al)
theorem r_sT_bin {op : Bo} {a : E} {b : E} (self : P_sE G (.bin op a b)) : P_sT G (.bin op a b) := by
    intro X N sc k C W H0 x ok tk h al
    exact t_val (plain_of h rfl) (self ok tk h al)
theorem r_sT_tup {es : List E} (self : P_sE G (.tup es)) : P_sT G (.tup es) := by
    intro X N sc k C W H0 x ok tk h al
    exact t_val (plain_of h rfl) (self ok tk h al)
theorem r_sT_lst {es : List E} (self : P_sE G (.lst es)) : P_sT G (.lst es) := by
    intro X N sc k C W H0 x ok tk h al
    exact t_val (plain_of h rfl) (self ok tk h al)
theorem r_sT_idx {a : E} {b : E} (self : P_sE G (.idx a b)) : P_sT G (.idx a b) := by
    intro X N sc k C W H0 x ok tk h al
    exact t_val (plain_of h rfl) (self ok tk h al)
theorem r_sT_slc {a : E} {lo : Option E} {hi : Option E} (self : P_sE G (.slc a lo hi)) : P_sT G (.slc a lo hi) := by
    intro X N sc k C W H0 x ok tk h al
    exact t_val (plain_of h rfl) (self ok tk h al)
theorem r_sT_rev {a : E} (self : P_sE G (.rev a)) : P_sT G (.rev a) := by
    intro X N sc k C W H0 x ok tk h al
    exact t_val (plain_of h rfl) (self ok tk h al)
theorem r_sT_call {f : Str} {m : Sem} {es : List E} (self : P_sE G (.call f m es)) (ih_sF_es : P_sF G es) : P_sT G (.call f m es) := by
    intro X N sc k C W H0 x ok tk h al
    cases hd : isDot f with
    | false => exact t_val (plain_of h hd) (self ok tk h al)
    | true =>
      unfold mE at h; rw [allE] at al; rw [if_pos hd] at h
      split at h
      · rename_i xs hx
        simp only [Bool.and_eq_true] at h
        rcases al.1 with ⟨hd2, _⟩ | ⟨_, kn⟩ | ⟨hd2, _⟩ | ⟨rfl, _⟩ | ⟨rfl, _⟩
        · rw [hd] at hd2; cases hd2
        · exact (kn ok h.1.1.1.1 tk rfl rfl rfl rfl rfl hx (sm3_of h.1.1.2) h.1.2 h.2 (ih_sF_es ok tk h.1.2 al.2)).2
        · rw [hd] at hd2; cases hd2
        · cases hx
        · cases hx
      · cases h
theorem r_sF_nil : P_sF G [] := by
    intro X N sc k C W H0 xs ok tk h al
    unfold mEs at h; split at h
    · exact trivial
    · cases h
theorem r_sF_cons {e : E} {es : List E} (ih_sE_e : P_sE G e) (ih_sF_es : P_sF G es) : P_sF G (e :: es) := by
    intro X N sc k C W H0 xs ok tk h al
    unfold mEs at h; rw [allEs] at al; split at h
    · simp only [Bool.and_eq_true] at h
      exact ⟨ih_sE_e ok tk h.1.1 al.1, ih_sF_es ok tk h.2 al.2⟩
    · cases h
theorem r_sT_bi {f : BI} {es : List E} (self : P_sE G (.bi f es)) : P_sT G (.bi f es) := by
    intro X N sc k C W H0 x ok tk h al
    exact t_val (plain_of h rfl) (self ok tk h al)
theorem r_sT_isi {a : E} {t : Ty} (self : P_sE G (.isi a t)) : P_sT G (.isi a t) := by
    intro X N sc k C W H0 x ok tk h al
    exact t_val (plain_of h rfl) (self ok tk h al)
theorem r_sT_lenset {a : E} (self : P_sE G (.lenset a)) : P_sT G (.lenset a) := by
    intro X N sc k C W H0 x ok tk h al
    exact t_val (plain_of h rfl) (self ok tk h al)
theorem r_sT_mth {m : Mt} {o : E} {es : List E} (self : P_sE G (.mth m o es)) : P_sT G (.mth m o es) := by
    intro X N sc k C W H0 x ok tk h al
    exact t_val (plain_of h rfl) (self ok tk h al)
theorem r_sT_lc {tg : Tg} {it : I} {ifs : List E} {elt : E} (self : P_sE G (.lc tg it ifs elt)) : P_sT G (.lc tg it ifs elt) := by
    intro X N sc k C W H0 x ok tk h al
    exact t_val (plain_of h rfl) (self ok tk h al)
theorem r_sT_cv {f : BI} {it : I} (self : P_sE G (.cv f it)) : P_sT G (.cv f it) := by
    intro X N sc k C W H0 x ok tk h al
    exact t_val (plain_of h rfl) (self ok tk h al)
theorem r_sT_dct {ks : List Cn} {es : List E} (self : P_sE G (.dct ks es)) : P_sT G (.dct ks es) := by
    intro X N sc k C W H0 x ok tk h al
    exact t_val (plain_of h rfl) (self ok tk h al)
theorem r_sT_eis {i : Nat} {cs : List Str} {tp : Bool} (self : P_sE G (.eis i cs tp)) : P_sT G (.eis i cs tp) := by
    intro X N sc k C W H0 x ok tk h al
    exact t_val (plain_of h rfl) (self ok tk h al)
theorem r_sT_efl {i : Nat} {f : Str} (self : P_sE G (.efl i f)) : P_sT G (.efl i f) := by
    intro X N sc k C W H0 x ok tk h al
    exact t_val (plain_of h rfl) (self ok tk h al)
theorem r_sI_e {a : E} (ih_sE_a : P_sE G a) : P_sI G (.e a) := by
    intro X N sc k C W H0 tg x ok tk h hp al
    unfold mI at h; rw [allI] at al
    exact i_e ok (ih_sE_a ok tk h al)
theorem r_sI_rng1 {a : E} (ih_sE_a : P_sE G a) : P_sI G (.rng1 a) := by
    intro X N sc k C W H0 tg x ok tk h hp al
    unfold mI at h; rw [allI] at al; split at h
    · simp only [Bool.and_eq_true, decide_eq_true_eq] at h
      obtain ⟨⟨⟨rfl, h1⟩, h2⟩, h3⟩ := h
      exact i_rng1 ok h1 h3 (ih_sE_a ok tk h2 al)
    · cases h
theorem r_sI_rng2 {a : E} {b : E} (ih_sE_a : P_sE G a) (ih_sE_b : P_sE G b) : P_sI G (.rng2 a b) := by
    intro X N sc k C W H0 tg x ok tk h hp al
    unfold mI at h; rw [allI] at al; split at h
    · simp only [Bool.and_eq_true, decide_eq_true_eq] at h
      obtain ⟨⟨⟨⟨⟨rfl, h1⟩, h2⟩, h3⟩, h4⟩, h5⟩ := h
      exact i_rng2 ok h1 h4 h5 (ih_sE_a ok tk h2 al.1) (ih_sE_b ok tk h3 al.2)
    · cases h
theorem r_sI_rng3 {a : E} {b : E} {c : E} (ih_sE_a : P_sE G a) (ih_sE_b : P_sE G b) (ih_sE_c : P_sE G c) : P_sI G (.rng3 a b c) := by
    intro X N sc k C W H0 tg x ok tk h hp al
    unfold mI at h; rw [allI] at al; split at h
    · simp only [Bool.and_eq_true, decide_eq_true_eq] at h
      obtain ⟨⟨⟨⟨⟨⟨⟨rfl, h1⟩, h2⟩, h3⟩, h4⟩, h5⟩, h6⟩, h7⟩ := h
      exact i_rng3 ok h1 h5 h6 h7 (ih_sE_a ok tk h2 al.1) (ih_sE_b ok tk h3 al.2.1) (ih_sE_c ok tk h4 al.2.2)
    · cases h
theorem r_sI_enum {a : E} (ih_sE_a : P_sE G a) : P_sI G (.enum a) := by
    intro X N sc k C W H0 tg x ok tk h hp al
    unfold mI at h; rw [allI] at al; split at h
    · simp only [Bool.and_eq_true, decide_eq_true_eq] at h
      obtain ⟨⟨⟨rfl, h1⟩, h2⟩, h3⟩ := h
      obtain ⟨xs, kk, q, rfl⟩ := enumT hp rfl
      exact i_enum ok h1 h3 (ih_sE_a ok tk h2 al)
    · cases h
theorem r_sI_zip {a : E} {b : E} (ih_sE_a : P_sE G a) (ih_sE_b : P_sE G b) : P_sI G (.zip a b) := by
    intro X N sc k C W H0 tg x ok tk h hp al
    unfold mI at h; rw [allI] at al; split at h
    · simp only [Bool.and_eq_true, decide_eq_true_eq] at h
      obtain ⟨⟨⟨⟨⟨rfl, h1⟩, h2⟩, h3⟩, h4⟩, h5⟩ := h
      obtain ⟨xs, kk, q, rfl⟩ := enumT hp rfl
      exact i_zip ok h1 h4 h5 (ih_sE_a ok tk h2 al.1) (ih_sE_b ok tk h3 al.2)
    · cases h
theorem r_sI_rev {a : E} (ih_sE_a : P_sE G a) : P_sI G (.rev a) := by
    intro X N sc k C W H0 tg x ok tk h hp al
    unfold mI at h; rw [allI] at al; split at h
    · simp only [Bool.and_eq_true, decide_eq_true_eq] at h
      obtain ⟨⟨⟨rfl, h1⟩, h2⟩, h3⟩ := h
      exact i_rev ok h1 h3 (ih_sE_a ok tk h2 al)
    · cases h
theorem r_sCv_rng1 {a : E} (ih_sE_a : P_sE G a) : P_sCv G (.rng1 a) := by
    intro X N sc k C W H0 f x p pos ok hcm tk h2 h1 hr h4 al
    unfold mI at h4; rw [allI] at al; split at h4
    · simp only [Bool.and_eq_true, decide_eq_true_eq] at h4
      obtain ⟨⟨⟨rfl, g1⟩, g2⟩, g3⟩ := h4
      exact c_cv1 ok hcm h2 h1 g1 g3 (ih_sE_a ok tk g2 al)
    · cases h4
theorem r_sCv_rng2 {a : E} {b : E} (ih_sE_a : P_sE G a) (ih_sE_b : P_sE G b) : P_sCv G (.rng2 a b) := by
    intro X N sc k C W H0 f x p pos ok hcm tk h2 h1 hr h4 al
    unfold mI at h4; rw [allI] at al; split at h4
    · simp only [Bool.and_eq_true, decide_eq_true_eq] at h4
      obtain ⟨⟨⟨⟨⟨rfl, g1⟩, g2⟩, g3⟩, g4⟩, g5⟩ := h4
      exact c_cv2 ok hcm h2 h1 g1 g4 g5 (ih_sE_a ok tk g2 al.1) (ih_sE_b ok tk g3 al.2)
    · cases h4
theorem r_sCv_e {a : E}  : P_sCv G (.e a) := by
    intro X N sc k C W H0 f x p pos ok hcm tk h2 h1 hr h4 al
    cases hr
theorem r_sCv_rng3 {a : E} {b : E} {c : E}  : P_sCv G (.rng3 a b c) := by
    intro X N sc k C W H0 f x p pos ok hcm tk h2 h1 hr h4 al
    cases hr
theorem r_sCv_enum {a : E}  : P_sCv G (.enum a) := by
    intro X N sc k C W H0 f x p pos ok hcm tk h2 h1 hr h4 al
    cases hr
theorem r_sCv_zip {a : E} {b : E}  : P_sCv G (.zip a b) := by
    intro X N sc k C W H0 f x p pos ok hcm tk h2 h1 hr h4 al
    cases hr
theorem r_sCv_rev {a : E}  : P_sCv G (.rev a) := by
    intro X N sc k C W H0 f x p pos ok hcm tk h2 h1 hr h4 al
    cases hr
theorem r_sC_nil   : P_sC G ([]) := by
    intro X N sc k C W H0 xs ok tk h hb al
    unfold mEs at h; split at h
    · exact a_c_nil
    · cases h
theorem r_sC_cons {e : E} {es : List E} (ih_sE_e : P_sE G e) (ih_sC_es : P_sC G es) : P_sC G (e :: es) := by
    intro X N sc k C W H0 xs ok tk h hb al
    unfold mEs at h; rw [allEs] at al; split at h
    · simp only [Bool.and_eq_true] at h
      obtain ⟨b1, b2⟩ := noB_cons hb
      exact a_c_cons h.1.2 b1 (ih_sE_e ok tk h.1.1 al.1) (ih_sC_es ok tk h.2 b2 al.2)
    · cases h
theorem r_sB_nil   : P_sB G ([]) := by
    intro X N sc k C W H0 xs ok tk h al
    unfold mEs at h; split at h
    · exact a_b_nil
    · cases h
theorem r_sB_cons {e : E} {es : List E} (ih_sE_e : P_sE G e) (ih_sB_es : P_sB G es) : P_sB G (e :: es) := by
    intro X N sc k C W H0 xs ok tk h al
    unfold mEs at h; rw [allEs] at al; split at h
    · simp only [Bool.and_eq_true] at h
      exact a_b_cons h.1.2 (ih_sE_e ok tk h.1.1 al.1) (ih_sB_es ok tk h.2 al.2)
    · cases h
theorem r_sP_nil   : P_sP G ([]) := by
    intro X N sc k C W H0 ks keys xs pos ok tk hm h hl al
    unfold mEs at h; split at h
    · cases keys with
      | cons _ _ => simp at hl
      | nil =>
        cases ks with
        | nil => exact pps_nil
        | cons _ _ => cases hm
    · cases h
theorem r_sP_cons {e : E} {es : List E} (ih_sE_e : P_sE G e) (ih_sP_es : P_sP G es) : P_sP G (e :: es) := by
    intro X N sc k C W H0 ks keys xs pos ok tk hm h hl al
    unfold mEs at h; rw [allEs] at al; split at h
    · simp only [Bool.and_eq_true] at h
      cases keys with
      | nil => simp at hl
      | cons y keys =>
        cases ks with
        | nil => cases hm
        | cons q ks =>
          obtain ⟨c, j, q', rfl, m1, m2⟩ := mKs_cons hm
          exact pps_cons (c_const m1) (ih_sE_e ok tk h.1.1 al.1) (ih_sP_es ok tk m2 h.2 (by simpa using hl) al.2)
    · cases h
theorem r_sO_none   : P_sO G (none) := by
    intro X N sc k C W H0 x ok tk h al
    unfold mO at h; split at h
    · exact o_none
    · cases h
theorem r_sO_some {e : E} (ih_sE_e : P_sE G e) : P_sO G (some e) := by
    intro X N sc k C W H0 x ok tk h al
    unfold mO at h; rw [allO] at al; split at h
    · exact o_some (ih_sE_e ok tk h al)
    · cases h
theorem r_sAnd_nil   : P_sAnd G [] := by
    intro X N sc k C W H0 xs pos ok tk h al hn
    exact absurd rfl hn
theorem r_sAnd_cons {e : E} {es : List E} (ih_sE_e : P_sE G e) (ih_sAnd_es : P_sAnd G es) : P_sAnd G (e :: es) := by
    intro X N sc k C W H0 xs pos ok tk h al hn
    cases es with
    | nil =>  
      unfold mEs at h; rw [allEs] at al; split at h
      · simp only [Bool.and_eq_true] at h
        obtain ⟨⟨h1, _⟩, h2⟩ := h
        unfold mEs at h2; split at h2
        · exact and_one (ih_sE_e ok tk h1 al.1)
        · cases h2
      · cases h
    | cons e' es =>  
      unfold mEs at h; rw [allEs] at al; split at h
      · rename_i y ys
        simp only [Bool.and_eq_true] at h
        obtain ⟨⟨h1, _⟩, h2⟩ := h
        cases ys with
        | nil => unfold mEs at h2; cases h2
        | cons z zs => exact and_cons (ih_sE_e ok tk h1 al.1) (ih_sAnd_es ok tk h2 al.2 (by simp))
      · cases h
theorem r_sOr_nil   : P_sOr G [] := by
    intro X N sc k C W H0 xs pos ok tk h al hn
    exact absurd rfl hn
theorem r_sOr_cons {e : E} {es : List E} (ih_sE_e : P_sE G e) (ih_sOr_es : P_sOr G es) : P_sOr G (e :: es) := by
    intro X N sc k C W H0 xs pos ok tk h al hn
    cases es with
    | nil =>  
      unfold mEs at h; rw [allEs] at al; split at h
      · simp only [Bool.and_eq_true] at h
        obtain ⟨⟨h1, _⟩, h2⟩ := h
        unfold mEs at h2; split at h2
        · exact or_one (ih_sE_e ok tk h1 al.1)
        · cases h2
      · cases h
    | cons e' es =>  
      unfold mEs at h; rw [allEs] at al; split at h
      · rename_i y ys
        simp only [Bool.and_eq_true] at h
        obtain ⟨⟨h1, _⟩, h2⟩ := h
        cases ys with
        | nil => unfold mEs at h2; cases h2
        | cons z zs => exact or_cons (ih_sE_e ok tk h1 al.1) (ih_sOr_es ok tk h2 al.2 (by simp))
      · cases h
theorem r_sAndT_nil   : P_sAndT G [] := by
    intro X N sc k C W H0 xs pos ok tk h al hn
    exact absurd rfl hn
theorem r_sAndT_cons {e : E} {es : List E} (ih_sT_e : P_sT G e) (ih_sAndT_es : P_sAndT G es) : P_sAndT G (e :: es) := by
    intro X N sc k C W H0 xs pos ok tk h al hn
    cases es with
    | nil =>  
      unfold mEs at h; rw [allEs] at al; split at h
      · simp only [Bool.and_eq_true] at h
        obtain ⟨⟨h1, _⟩, h2⟩ := h
        unfold mEs at h2; split at h2
        · exact andT_one (ih_sT_e ok tk h1 al.1)
        · cases h2
      · cases h
    | cons e' es =>  
      unfold mEs at h; rw [allEs] at al; split at h
      · rename_i y ys
        simp only [Bool.and_eq_true] at h
        obtain ⟨⟨h1, _⟩, h2⟩ := h
        cases ys with
        | nil => unfold mEs at h2; cases h2
        | cons z zs => exact andT_cons (ih_sT_e ok tk h1 al.1) (ih_sAndT_es ok tk h2 al.2 (by simp))
      · cases h
theorem r_sOrT_nil   : P_sOrT G [] := by
    intro X N sc k C W H0 xs pos ok tk h al hn
    exact absurd rfl hn
theorem r_sOrT_cons {e : E} {es : List E} (ih_sT_e : P_sT G e) (ih_sOrT_es : P_sOrT G es) : P_sOrT G (e :: es) := by
    intro X N sc k C W H0 xs pos ok tk h al hn
    cases es with
    | nil =>  
      unfold mEs at h; rw [allEs] at al; split at h
      · simp only [Bool.and_eq_true] at h
        obtain ⟨⟨h1, _⟩, h2⟩ := h
        unfold mEs at h2; split at h2
        · exact orT_one (ih_sT_e ok tk h1 al.1)
        · cases h2
      · cases h
    | cons e' es =>  
      unfold mEs at h; rw [allEs] at al; split at h
      · rename_i y ys
        simp only [Bool.and_eq_true] at h
        obtain ⟨⟨h1, _⟩, h2⟩ := h
        cases ys with
        | nil => unfold mEs at h2; cases h2
        | cons z zs => exact orT_cons (ih_sT_e ok tk h1 al.1) (ih_sOrT_es ok tk h2 al.2 (by simp))
      · cases h
theorem r_sAll_nil   : P_sAll G [] := by
    intro X N sc k C W H0 xs ok tk h hl al
    unfold mEs at h; split at h
    · exact all_nil
    · cases h
theorem r_sAll_cons {e : E} {es : List E} (ih_sT_e : P_sT G e) : P_sAll G (e :: es) := by
    intro X N sc k C W H0 xs ok tk h hl al
    cases es with
    | nil =>  
      unfold mEs at h; rw [allEs] at al; split at h
      · simp only [Bool.and_eq_true] at h
        obtain ⟨⟨h1, _⟩, h2⟩ := h
        unfold mEs at h2; split at h2
        · exact all_one (ih_sT_e ok tk h1 al.1)
        · cases h2
      · cases h
    | cons e' es =>  
      unfold mEs at h; split at h
      · rename_i y ys
        simp only [Bool.and_eq_true] at h
        cases ys with
        | nil => have h2 := h.2; unfold mEs at h2; cases h2
        | cons z zs => simp only [List.length_cons] at hl; omega
      · cases h
theorem all_E (e : E) : P_sE G e ∧ P_sT G e :=
  E.rec (motive_1 := fun e => P_sE G e ∧ P_sT G e) (motive_2 := fun it => P_sI G it ∧ P_sCv G it) (motive_3 := fun es => P_sC G es ∧ P_sB G es ∧ P_sP G es ∧ P_sAnd G es ∧ P_sOr G es ∧ P_sAndT G es ∧ P_sOrT G es ∧ P_sAll G es ∧ P_sF G es) (motive_4 := fun o => P_sO G o)
    (fun _  => ⟨r_sE_c, r_sT_c (r_sE_c)⟩)
    (fun _  => ⟨r_sE_v, r_sT_v (r_sE_v)⟩)
    (fun _  => ⟨r_sE_vb, r_sT_vb (r_sE_vb)⟩)
    (fun _ _  => ⟨r_sE_g, r_sT_g (r_sE_g)⟩)
    (fun _ i_a => ⟨r_sE_neg (i_a.1), r_sT_neg (r_sE_neg (i_a.1))⟩)
    (fun _ i_a => ⟨r_sE_not (i_a.1), r_sT_not (i_a.2)⟩)
    (fun _ _ _ i_a i_b => ⟨r_sE_bin (i_a.1) (i_b.1), r_sT_bin (r_sE_bin (i_a.1) (i_b.1))⟩)
    (fun _ _ _ i_a i_b => ⟨r_sE_cmp (i_a.1) (i_b.1), r_sT_cmp (i_a.1) (i_b.1)⟩)
    (fun _ _ _ _ _ i_a i_b i_c => ⟨r_sE_chain (i_a.1) (i_b.1) (i_c.1), r_sT_chain (i_a.1) (i_b.1) (i_c.1)⟩)
    (fun _ i_es => ⟨r_sE_and (i_es.2.2.2.1), r_sT_and (i_es.2.2.2.2.2.1)⟩)
    (fun _ i_es => ⟨r_sE_or (i_es.2.2.2.2.1), r_sT_or (i_es.2.2.2.2.2.2.1)⟩)
    (fun _ _ _ i_t i_a i_b => ⟨r_sE_ife (i_t.2) (i_a.1) (i_b.1), r_sT_ife (i_t.2) (i_a.2) (i_b.2)⟩)
    (fun _ i_es => ⟨r_sE_tup (i_es.1), r_sT_tup (r_sE_tup (i_es.1))⟩)
    (fun _ i_es => ⟨r_sE_lst (i_es.1), r_sT_lst (r_sE_lst (i_es.1))⟩)
    (fun _ _ i_a i_b => ⟨r_sE_idx (i_a.1) (i_b.1), r_sT_idx (r_sE_idx (i_a.1) (i_b.1))⟩)
    (fun _ _ _ i_a i_lo i_hi => ⟨r_sE_slc (i_a.1) (i_lo) (i_hi), r_sT_slc (r_sE_slc (i_a.1) (i_lo) (i_hi))⟩)
    (fun _ i_a => ⟨r_sE_rev (i_a.1), r_sT_rev (r_sE_rev (i_a.1))⟩)
    (fun _ _ _ i_es => ⟨r_sE_call (i_es.1) (i_es.2.2.2.2.2.2.2.2), r_sT_call (r_sE_call (i_es.1) (i_es.2.2.2.2.2.2.2.2)) (i_es.2.2.2.2.2.2.2.2)⟩)
    (fun _ _ i_es => ⟨r_sE_bi (i_es.2.1), r_sT_bi (r_sE_bi (i_es.2.1))⟩)
    (fun _ _ i_a => ⟨r_sE_isi (i_a.1), r_sT_isi (r_sE_isi (i_a.1))⟩)
    (fun _ i_a => ⟨r_sE_lenset (i_a.1), r_sT_lenset (r_sE_lenset (i_a.1))⟩)
    (fun _ _ _ i_o i_es => ⟨r_sE_mth i_o.1 i_es.1, r_sT_mth (r_sE_mth i_o.1 i_es.1)⟩)
    (fun _ _ _ _ i_it i_ifs i_elt => ⟨r_sE_lc (i_it.1) (i_elt.1) (i_ifs.2.2.2.2.2.2.2.1), r_sT_lc (r_sE_lc (i_it.1) (i_elt.1) (i_ifs.2.2.2.2.2.2.2.1))⟩)
    (fun _ _ i_it => ⟨r_sE_cv (i_it.2), r_sT_cv (r_sE_cv (i_it.2))⟩)
    (fun _ _ i_es => ⟨r_sE_dct (i_es.2.2.1), r_sT_dct (r_sE_dct (i_es.2.2.1))⟩)
    (fun _ _ _ => ⟨r_sE_eis, r_sT_eis r_sE_eis⟩)
    (fun _ _ => ⟨r_sE_efl, r_sT_efl r_sE_efl⟩)
    (fun _ i_a => ⟨r_sI_e (i_a.1), r_sCv_e⟩)
    (fun _ i_a => ⟨r_sI_rng1 (i_a.1), r_sCv_rng1 (i_a.1)⟩)
    (fun _ _ i_a i_b => ⟨r_sI_rng2 (i_a.1) (i_b.1), r_sCv_rng2 (i_a.1) (i_b.1)⟩)
    (fun _ _ _ i_a i_b i_c => ⟨r_sI_rng3 (i_a.1) (i_b.1) (i_c.1), r_sCv_rng3⟩)
    (fun _ i_a => ⟨r_sI_enum (i_a.1), r_sCv_enum⟩)
    (fun _ _ i_a i_b => ⟨r_sI_zip (i_a.1) (i_b.1), r_sCv_zip⟩)
    (fun _ i_a => ⟨r_sI_rev (i_a.1), r_sCv_rev⟩)
    ⟨r_sC_nil, r_sB_nil, r_sP_nil, r_sAnd_nil, r_sOr_nil, r_sAndT_nil, r_sOrT_nil, r_sAll_nil, r_sF_nil⟩
    (fun _ _ i_e i_es => ⟨r_sC_cons (i_e.1) (i_es.1), r_sB_cons (i_e.1) (i_es.2.1), r_sP_cons (i_e.1) (i_es.2.2.1), r_sAnd_cons (i_e.1) (i_es.2.2.2.1), r_sOr_cons (i_e.1) (i_es.2.2.2.2.1), r_sAndT_cons (i_e.2) (i_es.2.2.2.2.2.1), r_sOrT_cons (i_e.2) (i_es.2.2.2.2.2.2.1), r_sAll_cons (i_e.2), r_sF_cons (i_e.1) (i_es.2.2.2.2.2.2.2.2)⟩)
    r_sO_none
    (fun _ i_e => r_sO_some (i_e.1)) e
theorem all_I (e : I) : P_sI G e ∧ P_sCv G e :=
  I.rec (motive_1 := fun e => P_sE G e ∧ P_sT G e) (motive_2 := fun it => P_sI G it ∧ P_sCv G it) (motive_3 := fun es => P_sC G es ∧ P_sB G es ∧ P_sP G es ∧ P_sAnd G es ∧ P_sOr G es ∧ P_sAndT G es ∧ P_sOrT G es ∧ P_sAll G es ∧ P_sF G es) (motive_4 := fun o => P_sO G o)
    (fun _  => ⟨r_sE_c, r_sT_c (r_sE_c)⟩)
    (fun _  => ⟨r_sE_v, r_sT_v (r_sE_v)⟩)
    (fun _  => ⟨r_sE_vb, r_sT_vb (r_sE_vb)⟩)
    (fun _ _  => ⟨r_sE_g, r_sT_g (r_sE_g)⟩)
    (fun _ i_a => ⟨r_sE_neg (i_a.1), r_sT_neg (r_sE_neg (i_a.1))⟩)
    (fun _ i_a => ⟨r_sE_not (i_a.1), r_sT_not (i_a.2)⟩)
    (fun _ _ _ i_a i_b => ⟨r_sE_bin (i_a.1) (i_b.1), r_sT_bin (r_sE_bin (i_a.1) (i_b.1))⟩)
    (fun _ _ _ i_a i_b => ⟨r_sE_cmp (i_a.1) (i_b.1), r_sT_cmp (i_a.1) (i_b.1)⟩)
    (fun _ _ _ _ _ i_a i_b i_c => ⟨r_sE_chain (i_a.1) (i_b.1) (i_c.1), r_sT_chain (i_a.1) (i_b.1) (i_c.1)⟩)
    (fun _ i_es => ⟨r_sE_and (i_es.2.2.2.1), r_sT_and (i_es.2.2.2.2.2.1)⟩)
    (fun _ i_es => ⟨r_sE_or (i_es.2.2.2.2.1), r_sT_or (i_es.2.2.2.2.2.2.1)⟩)
    (fun _ _ _ i_t i_a i_b => ⟨r_sE_ife (i_t.2) (i_a.1) (i_b.1), r_sT_ife (i_t.2) (i_a.2) (i_b.2)⟩)
    (fun _ i_es => ⟨r_sE_tup (i_es.1), r_sT_tup (r_sE_tup (i_es.1))⟩)
    (fun _ i_es => ⟨r_sE_lst (i_es.1), r_sT_lst (r_sE_lst (i_es.1))⟩)
    (fun _ _ i_a i_b => ⟨r_sE_idx (i_a.1) (i_b.1), r_sT_idx (r_sE_idx (i_a.1) (i_b.1))⟩)
    (fun _ _ _ i_a i_lo i_hi => ⟨r_sE_slc (i_a.1) (i_lo) (i_hi), r_sT_slc (r_sE_slc (i_a.1) (i_lo) (i_hi))⟩)
    (fun _ i_a => ⟨r_sE_rev (i_a.1), r_sT_rev (r_sE_rev (i_a.1))⟩)
    (fun _ _ _ i_es => ⟨r_sE_call (i_es.1) (i_es.2.2.2.2.2.2.2.2), r_sT_call (r_sE_call (i_es.1) (i_es.2.2.2.2.2.2.2.2)) (i_es.2.2.2.2.2.2.2.2)⟩)
    (fun _ _ i_es => ⟨r_sE_bi (i_es.2.1), r_sT_bi (r_sE_bi (i_es.2.1))⟩)
    (fun _ _ i_a => ⟨r_sE_isi (i_a.1), r_sT_isi (r_sE_isi (i_a.1))⟩)
    (fun _ i_a => ⟨r_sE_lenset (i_a.1), r_sT_lenset (r_sE_lenset (i_a.1))⟩)
    (fun _ _ _ i_o i_es => ⟨r_sE_mth i_o.1 i_es.1, r_sT_mth (r_sE_mth i_o.1 i_es.1)⟩)
    (fun _ _ _ _ i_it i_ifs i_elt => ⟨r_sE_lc (i_it.1) (i_elt.1) (i_ifs.2.2.2.2.2.2.2.1), r_sT_lc (r_sE_lc (i_it.1) (i_elt.1) (i_ifs.2.2.2.2.2.2.2.1))⟩)
    (fun _ _ i_it => ⟨r_sE_cv (i_it.2), r_sT_cv (r_sE_cv (i_it.2))⟩)
    (fun _ _ i_es => ⟨r_sE_dct (i_es.2.2.1), r_sT_dct (r_sE_dct (i_es.2.2.1))⟩)
    (fun _ _ _ => ⟨r_sE_eis, r_sT_eis r_sE_eis⟩)
    (fun _ _ => ⟨r_sE_efl, r_sT_efl r_sE_efl⟩)
    (fun _ i_a => ⟨r_sI_e (i_a.1), r_sCv_e⟩)
    (fun _ i_a => ⟨r_sI_rng1 (i_a.1), r_sCv_rng1 (i_a.1)⟩)
    (fun _ _ i_a i_b => ⟨r_sI_rng2 (i_a.1) (i_b.1), r_sCv_rng2 (i_a.1) (i_b.1)⟩)
    (fun _ _ _ i_a i_b i_c => ⟨r_sI_rng3 (i_a.1) (i_b.1) (i_c.1), r_sCv_rng3⟩)
    (fun _ i_a => ⟨r_sI_enum (i_a.1), r_sCv_enum⟩)
    (fun _ _ i_a i_b => ⟨r_sI_zip (i_a.1) (i_b.1), r_sCv_zip⟩)
    (fun _ i_a => ⟨r_sI_rev (i_a.1), r_sCv_rev⟩)
    ⟨r_sC_nil, r_sB_nil, r_sP_nil, r_sAnd_nil, r_sOr_nil, r_sAndT_nil, r_sOrT_nil, r_sAll_nil, r_sF_nil⟩
    (fun _ _ i_e i_es => ⟨r_sC_cons (i_e.1) (i_es.1), r_sB_cons (i_e.1) (i_es.2.1), r_sP_cons (i_e.1) (i_es.2.2.1), r_sAnd_cons (i_e.1) (i_es.2.2.2.1), r_sOr_cons (i_e.1) (i_es.2.2.2.2.1), r_sAndT_cons (i_e.2) (i_es.2.2.2.2.2.1), r_sOrT_cons (i_e.2) (i_es.2.2.2.2.2.2.1), r_sAll_cons (i_e.2), r_sF_cons (i_e.1) (i_es.2.2.2.2.2.2.2.2)⟩)
    r_sO_none
    (fun _ i_e => r_sO_some (i_e.1)) e
theorem all_L (e : List E) : P_sC G e ∧ P_sB G e ∧ P_sP G e ∧ P_sAnd G e ∧ P_sOr G e ∧ P_sAndT G e ∧ P_sOrT G e ∧ P_sAll G e ∧ P_sF G e :=
  E.rec_1 (motive_1 := fun e => P_sE G e ∧ P_sT G e) (motive_2 := fun it => P_sI G it ∧ P_sCv G it) (motive_3 := fun es => P_sC G es ∧ P_sB G es ∧ P_sP G es ∧ P_sAnd G es ∧ P_sOr G es ∧ P_sAndT G es ∧ P_sOrT G es ∧ P_sAll G es ∧ P_sF G es) (motive_4 := fun o => P_sO G o)
    (fun _  => ⟨r_sE_c, r_sT_c (r_sE_c)⟩)
    (fun _  => ⟨r_sE_v, r_sT_v (r_sE_v)⟩)
    (fun _  => ⟨r_sE_vb, r_sT_vb (r_sE_vb)⟩)
    (fun _ _  => ⟨r_sE_g, r_sT_g (r_sE_g)⟩)
    (fun _ i_a => ⟨r_sE_neg (i_a.1), r_sT_neg (r_sE_neg (i_a.1))⟩)
    (fun _ i_a => ⟨r_sE_not (i_a.1), r_sT_not (i_a.2)⟩)
    (fun _ _ _ i_a i_b => ⟨r_sE_bin (i_a.1) (i_b.1), r_sT_bin (r_sE_bin (i_a.1) (i_b.1))⟩)
    (fun _ _ _ i_a i_b => ⟨r_sE_cmp (i_a.1) (i_b.1), r_sT_cmp (i_a.1) (i_b.1)⟩)
    (fun _ _ _ _ _ i_a i_b i_c => ⟨r_sE_chain (i_a.1) (i_b.1) (i_c.1), r_sT_chain (i_a.1) (i_b.1) (i_c.1)⟩)
    (fun _ i_es => ⟨r_sE_and (i_es.2.2.2.1), r_sT_and (i_es.2.2.2.2.2.1)⟩)
    (fun _ i_es => ⟨r_sE_or (i_es.2.2.2.2.1), r_sT_or (i_es.2.2.2.2.2.2.1)⟩)
    (fun _ _ _ i_t i_a i_b => ⟨r_sE_ife (i_t.2) (i_a.1) (i_b.1), r_sT_ife (i_t.2) (i_a.2) (i_b.2)⟩)
    (fun _ i_es => ⟨r_sE_tup (i_es.1), r_sT_tup (r_sE_tup (i_es.1))⟩)
    (fun _ i_es => ⟨r_sE_lst (i_es.1), r_sT_lst (r_sE_lst (i_es.1))⟩)
    (fun _ _ i_a i_b => ⟨r_sE_idx (i_a.1) (i_b.1), r_sT_idx (r_sE_idx (i_a.1) (i_b.1))⟩)
    (fun _ _ _ i_a i_lo i_hi => ⟨r_sE_slc (i_a.1) (i_lo) (i_hi), r_sT_slc (r_sE_slc (i_a.1) (i_lo) (i_hi))⟩)
    (fun _ i_a => ⟨r_sE_rev (i_a.1), r_sT_rev (r_sE_rev (i_a.1))⟩)
    (fun _ _ _ i_es => ⟨r_sE_call (i_es.1) (i_es.2.2.2.2.2.2.2.2), r_sT_call (r_sE_call (i_es.1) (i_es.2.2.2.2.2.2.2.2)) (i_es.2.2.2.2.2.2.2.2)⟩)
    (fun _ _ i_es => ⟨r_sE_bi (i_es.2.1), r_sT_bi (r_sE_bi (i_es.2.1))⟩)
    (fun _ _ i_a => ⟨r_sE_isi (i_a.1), r_sT_isi (r_sE_isi (i_a.1))⟩)
    (fun _ i_a => ⟨r_sE_lenset (i_a.1), r_sT_lenset (r_sE_lenset (i_a.1))⟩)
    (fun _ _ _ i_o i_es => ⟨r_sE_mth i_o.1 i_es.1, r_sT_mth (r_sE_mth i_o.1 i_es.1)⟩)
    (fun _ _ _ _ i_it i_ifs i_elt => ⟨r_sE_lc (i_it.1) (i_elt.1) (i_ifs.2.2.2.2.2.2.2.1), r_sT_lc (r_sE_lc (i_it.1) (i_elt.1) (i_ifs.2.2.2.2.2.2.2.1))⟩)
    (fun _ _ i_it => ⟨r_sE_cv (i_it.2), r_sT_cv (r_sE_cv (i_it.2))⟩)
    (fun _ _ i_es => ⟨r_sE_dct (i_es.2.2.1), r_sT_dct (r_sE_dct (i_es.2.2.1))⟩)
    (fun _ _ _ => ⟨r_sE_eis, r_sT_eis r_sE_eis⟩)
    (fun _ _ => ⟨r_sE_efl, r_sT_efl r_sE_efl⟩)
    (fun _ i_a => ⟨r_sI_e (i_a.1), r_sCv_e⟩)
    (fun _ i_a => ⟨r_sI_rng1 (i_a.1), r_sCv_rng1 (i_a.1)⟩)
    (fun _ _ i_a i_b => ⟨r_sI_rng2 (i_a.1) (i_b.1), r_sCv_rng2 (i_a.1) (i_b.1)⟩)
    (fun _ _ _ i_a i_b i_c => ⟨r_sI_rng3 (i_a.1) (i_b.1) (i_c.1), r_sCv_rng3⟩)
    (fun _ i_a => ⟨r_sI_enum (i_a.1), r_sCv_enum⟩)
    (fun _ _ i_a i_b => ⟨r_sI_zip (i_a.1) (i_b.1), r_sCv_zip⟩)
    (fun _ i_a => ⟨r_sI_rev (i_a.1), r_sCv_rev⟩)
    ⟨r_sC_nil, r_sB_nil, r_sP_nil, r_sAnd_nil, r_sOr_nil, r_sAndT_nil, r_sOrT_nil, r_sAll_nil, r_sF_nil⟩
    (fun _ _ i_e i_es => ⟨r_sC_cons (i_e.1) (i_es.1), r_sB_cons (i_e.1) (i_es.2.1), r_sP_cons (i_e.1) (i_es.2.2.1), r_sAnd_cons (i_e.1) (i_es.2.2.2.1), r_sOr_cons (i_e.1) (i_es.2.2.2.2.1), r_sAndT_cons (i_e.2) (i_es.2.2.2.2.2.1), r_sOrT_cons (i_e.2) (i_es.2.2.2.2.2.2.1), r_sAll_cons (i_e.2), r_sF_cons (i_e.1) (i_es.2.2.2.2.2.2.2.2)⟩)
    r_sO_none
    (fun _ i_e => r_sO_some (i_e.1)) e
theorem all_O (e : Option E) : P_sO G e :=
  E.rec_2 (motive_1 := fun e => P_sE G e ∧ P_sT G e) (motive_2 := fun it => P_sI G it ∧ P_sCv G it) (motive_3 := fun es => P_sC G es ∧ P_sB G es ∧ P_sP G es ∧ P_sAnd G es ∧ P_sOr G es ∧ P_sAndT G es ∧ P_sOrT G es ∧ P_sAll G es ∧ P_sF G es) (motive_4 := fun o => P_sO G o)
    (fun _  => ⟨r_sE_c, r_sT_c (r_sE_c)⟩)
    (fun _  => ⟨r_sE_v, r_sT_v (r_sE_v)⟩)
    (fun _  => ⟨r_sE_vb, r_sT_vb (r_sE_vb)⟩)
    (fun _ _  => ⟨r_sE_g, r_sT_g (r_sE_g)⟩)
    (fun _ i_a => ⟨r_sE_neg (i_a.1), r_sT_neg (r_sE_neg (i_a.1))⟩)
    (fun _ i_a => ⟨r_sE_not (i_a.1), r_sT_not (i_a.2)⟩)
    (fun _ _ _ i_a i_b => ⟨r_sE_bin (i_a.1) (i_b.1), r_sT_bin (r_sE_bin (i_a.1) (i_b.1))⟩)
    (fun _ _ _ i_a i_b => ⟨r_sE_cmp (i_a.1) (i_b.1), r_sT_cmp (i_a.1) (i_b.1)⟩)
    (fun _ _ _ _ _ i_a i_b i_c => ⟨r_sE_chain (i_a.1) (i_b.1) (i_c.1), r_sT_chain (i_a.1) (i_b.1) (i_c.1)⟩)
    (fun _ i_es => ⟨r_sE_and (i_es.2.2.2.1), r_sT_and (i_es.2.2.2.2.2.1)⟩)
    (fun _ i_es => ⟨r_sE_or (i_es.2.2.2.2.1), r_sT_or (i_es.2.2.2.2.2.2.1)⟩)
    (fun _ _ _ i_t i_a i_b => ⟨r_sE_ife (i_t.2) (i_a.1) (i_b.1), r_sT_ife (i_t.2) (i_a.2) (i_b.2)⟩)
    (fun _ i_es => ⟨r_sE_tup (i_es.1), r_sT_tup (r_sE_tup (i_es.1))⟩)
    (fun _ i_es => ⟨r_sE_lst (i_es.1), r_sT_lst (r_sE_lst (i_es.1))⟩)
    (fun _ _ i_a i_b => ⟨r_sE_idx (i_a.1) (i_b.1), r_sT_idx (r_sE_idx (i_a.1) (i_b.1))⟩)
    (fun _ _ _ i_a i_lo i_hi => ⟨r_sE_slc (i_a.1) (i_lo) (i_hi), r_sT_slc (r_sE_slc (i_a.1) (i_lo) (i_hi))⟩)
    (fun _ i_a => ⟨r_sE_rev (i_a.1), r_sT_rev (r_sE_rev (i_a.1))⟩)
    (fun _ _ _ i_es => ⟨r_sE_call (i_es.1) (i_es.2.2.2.2.2.2.2.2), r_sT_call (r_sE_call (i_es.1) (i_es.2.2.2.2.2.2.2.2)) (i_es.2.2.2.2.2.2.2.2)⟩)
    (fun _ _ i_es => ⟨r_sE_bi (i_es.2.1), r_sT_bi (r_sE_bi (i_es.2.1))⟩)
    (fun _ _ i_a => ⟨r_sE_isi (i_a.1), r_sT_isi (r_sE_isi (i_a.1))⟩)
    (fun _ i_a => ⟨r_sE_lenset (i_a.1), r_sT_lenset (r_sE_lenset (i_a.1))⟩)
    (fun _ _ _ i_o i_es => ⟨r_sE_mth i_o.1 i_es.1, r_sT_mth (r_sE_mth i_o.1 i_es.1)⟩)
    (fun _ _ _ _ i_it i_ifs i_elt => ⟨r_sE_lc (i_it.1) (i_elt.1) (i_ifs.2.2.2.2.2.2.2.1), r_sT_lc (r_sE_lc (i_it.1) (i_elt.1) (i_ifs.2.2.2.2.2.2.2.1))⟩)
    (fun _ _ i_it => ⟨r_sE_cv (i_it.2), r_sT_cv (r_sE_cv (i_it.2))⟩)
    (fun _ _ i_es => ⟨r_sE_dct (i_es.2.2.1), r_sT_dct (r_sE_dct (i_es.2.2.1))⟩)
    (fun _ _ _ => ⟨r_sE_eis, r_sT_eis r_sE_eis⟩)
    (fun _ _ => ⟨r_sE_efl, r_sT_efl r_sE_efl⟩)
    (fun _ i_a => ⟨r_sI_e (i_a.1), r_sCv_e⟩)
    (fun _ i_a => ⟨r_sI_rng1 (i_a.1), r_sCv_rng1 (i_a.1)⟩)
    (fun _ _ i_a i_b => ⟨r_sI_rng2 (i_a.1) (i_b.1), r_sCv_rng2 (i_a.1) (i_b.1)⟩)
    (fun _ _ _ i_a i_b i_c => ⟨r_sI_rng3 (i_a.1) (i_b.1) (i_c.1), r_sCv_rng3⟩)
    (fun _ i_a => ⟨r_sI_enum (i_a.1), r_sCv_enum⟩)
    (fun _ _ i_a i_b => ⟨r_sI_zip (i_a.1) (i_b.1), r_sCv_zip⟩)
    (fun _ i_a => ⟨r_sI_rev (i_a.1), r_sCv_rev⟩)
    ⟨r_sC_nil, r_sB_nil, r_sP_nil, r_sAnd_nil, r_sOr_nil, r_sAndT_nil, r_sOrT_nil, r_sAll_nil, r_sF_nil⟩
    (fun _ _ i_e i_es => ⟨r_sC_cons (i_e.1) (i_es.1), r_sB_cons (i_e.1) (i_es.2.1), r_sP_cons (i_e.1) (i_es.2.2.1), r_sAnd_cons (i_e.1) (i_es.2.2.2.1), r_sOr_cons (i_e.1) (i_es.2.2.2.2.1), r_sAndT_cons (i_e.2) (i_es.2.2.2.2.2.1), r_sOrT_cons (i_e.2) (i_es.2.2.2.2.2.2.1), r_sAll_cons (i_e.2), r_sF_cons (i_e.1) (i_es.2.2.2.2.2.2.2.2)⟩)
    r_sO_none
    (fun _ i_e => r_sO_some (i_e.1)) e
theorem sE (e : E) : ∀ {X : Cx} {N : List Str} {sc : Scope} {k : Nat} {C : Gho} {W : WX} {H0 : Hp} {x : Expr}, XOk G X N sc k C → Takes X W → mE N sc e x = true → allE (Knows G X.prog X.w X.K X.mg X.base k) (Names X.K X.mg C) e → PE X x (tE C X.mg H0 W e) := (all_E (G := G) e).1
theorem sCv (it : I) : ∀ {X : Cx} {N : List Str} {sc : Scope} {k : Nat} {C : Gho} {W : WX} {H0 : Hp} {f : BI} {x : Expr} {p pos : Pos}, XOk G X N sc k C → calmB sc = true → Takes X W → (f = .tuple ∨ f = .list) → glB sc f.name = true → isRng it = true → mI N sc it x = true → allI (Knows G X.prog X.w X.K X.mg X.base k) (Names X.K X.mg C) it → PE X (.Call (.Name f.name p) [x] [] pos) (tE C X.mg H0 W (.cv f it)) := (all_I (G := G) it).2
theorem sP (es : List E) : ∀ {X : Cx} {N : List Str} {sc : Scope} {k : Nat} {C : Gho} {W : WX} {H0 : Hp} {ks : List Cn} {keys : List (Option Expr)} {xs : List Expr} {pos : Pos}, XOk G X N sc k C → Takes X W → mKs ks keys = true → mEs N sc es xs = true → keys.length = xs.length → allEs (Knows G X.prog X.w X.K X.mg X.base k) (Names X.K X.mg C) es → PPs X pos keys xs (trsOf C X.mg H0 W ks es) := (all_L (G := G) es).2.2.1
theorem sT (e : E) : ∀ {X : Cx} {N : List Str} {sc : Scope} {k : Nat} {C : Gho} {W : WX} {H0 : Hp} {x : Expr}, XOk G X N sc k C → Takes X W → mE N sc e x = true → allE (Knows G X.prog X.w X.K X.mg X.base k) (Names X.K X.mg C) e → PT X x (tT C X.mg H0 W e) := (all_E (G := G) e).2
theorem sC (es : List E) : ∀ {X : Cx} {N : List Str} {sc : Scope} {k : Nat} {C : Gho} {W : WX} {H0 : Hp} {xs : List Expr}, XOk G X N sc k C → Takes X W → mEs N sc es xs = true → noB (kds es) = true → allEs (Knows G X.prog X.w X.K X.mg X.base k) (Names X.K X.mg C) es → PA X xs (tAc C X.mg H0 W es) := (all_L (G := G) es).1
theorem sB (es : List E) : ∀ {X : Cx} {N : List Str} {sc : Scope} {k : Nat} {C : Gho} {W : WX} {H0 : Hp} {xs : List Expr}, XOk G X N sc k C → Takes X W → mEs N sc es xs = true → allEs (Knows G X.prog X.w X.K X.mg X.base k) (Names X.K X.mg C) es → PA X xs (tAb C X.mg H0 W es) := (all_L (G := G) es).2.1
theorem sO (o : Option E) : ∀ {X : Cx} {N : List Str} {sc : Scope} {k : Nat} {C : Gho} {W : WX} {H0 : Hp} {x : Option Expr}, XOk G X N sc k C → Takes X W → mO N sc o x = true → allO (Knows G X.prog X.w X.K X.mg X.base k) (Names X.K X.mg C) o → PO X x (tO C X.mg H0 W o) := (all_O (G := G) o)
theorem sAnd (es : List E) : ∀ {X : Cx} {N : List Str} {sc : Scope} {k : Nat} {C : Gho} {W : WX} {H0 : Hp} {xs : List Expr} {pos : Pos}, XOk G X N sc k C → Takes X W → mEs N sc es xs = true → allEs (Knows G X.prog X.w X.K X.mg X.base k) (Names X.K X.mg C) es → es ≠ [] → PE X (.BoolOp .And xs pos) (tAndE C X.mg H0 W es) := (all_L (G := G) es).2.2.2.1
theorem sOr (es : List E) : ∀ {X : Cx} {N : List Str} {sc : Scope} {k : Nat} {C : Gho} {W : WX} {H0 : Hp} {xs : List Expr} {pos : Pos}, XOk G X N sc k C → Takes X W → mEs N sc es xs = true → allEs (Knows G X.prog X.w X.K X.mg X.base k) (Names X.K X.mg C) es → es ≠ [] → PE X (.BoolOp .Or xs pos) (tOrE C X.mg H0 W es) := (all_L (G := G) es).2.2.2.2.1
theorem sAndT (es : List E) : ∀ {X : Cx} {N : List Str} {sc : Scope} {k : Nat} {C : Gho} {W : WX} {H0 : Hp} {xs : List Expr} {pos : Pos}, XOk G X N sc k C → Takes X W → mEs N sc es xs = true → allEs (Knows G X.prog X.w X.K X.mg X.base k) (Names X.K X.mg C) es → es ≠ [] → PW X (.BoolOp .And xs pos) (tAndT C X.mg H0 W es) := (all_L (G := G) es).2.2.2.2.2.1
theorem sOrT (es : List E) : ∀ {X : Cx} {N : List Str} {sc : Scope} {k : Nat} {C : Gho} {W : WX} {H0 : Hp} {xs : List Expr} {pos : Pos}, XOk G X N sc k C → Takes X W → mEs N sc es xs = true → allEs (Knows G X.prog X.w X.K X.mg X.base k) (Names X.K X.mg C) es → es ≠ [] → PW X (.BoolOp .Or xs pos) (tOrT C X.mg H0 W es) := (all_L (G := G) es).2.2.2.2.2.2.1
theorem sAll (es : List E) : ∀ {X : Cx} {N : List Str} {sc : Scope} {k : Nat} {C : Gho} {W : WX} {H0 : Hp} {xs : List Expr}, XOk G X N sc k C → Takes X W → mEs N sc es xs = true → xs.length ≤ 1 → allEs (Knows G X.prog X.w X.K X.mg X.base k) (Names X.K X.mg C) es → PTs X xs (tAll C X.mg H0 W es) := (all_L (G := G) es).2.2.2.2.2.2.2.1
theorem sI (it : I) : ∀ {X : Cx} {N : List Str} {sc : Scope} {k : Nat} {C : Gho} {W : WX} {H0 : Hp} {tg x : Expr}, XOk G X N sc k C → Takes X W → mI N sc it x = true → (isTup tg || plainI it) = true → allI (Knows G X.prog X.w X.K X.mg X.base k) (Names X.K X.mg C) it → PI X tg x (tI C X.mg H0 W it) := (all_I (G := G) it).1
end PyI

set_option maxRecDepth 100000
/-! PyI, part M: statements, one by one. -/
namespace PyI
open PySem PySem.Spec PyProof.Rows L2
variable {G : Gho → Prop}

/-! ### a slot's own object -/
def OwnC (C : Gho) (B : Hp) : HO → Sl → Prop
  | .lst vs, .ol xs => Reps C.K C.hv B vs xs
  | .dK kvs, .od ks => RepKv C.K C.hv B kvs ks
  | _, _ => False
def OwnAt (C : Gho) (H0 B H : Hp) (l : Addr) (s : Sl) : Prop := ∃ o, H l = some o ∧ OwnC C B o s ∧ B l = none ∧ ¬ C.U l ∧ H0 l = none
theorem OwnC.isO {C : Gho} {B : Hp} {o : HO} {s : Sl} (h : OwnC C B o s) : isO s = true := by
  cases s <;> first | rfl | (cases o <;> exact h.elim)
theorem OwnC.mono {C : Gho} {B B' : Hp} (m : Same B B') {o : HO} {s : Sl} (h : OwnC C B o s) : OwnC C B' o s := by
  cases s <;> cases o <;> first | exact h.elim | exact Reps.mono m _ _ h | exact RepKv.mono m _ _ h
theorem OwnAt.ext {C : Gho} {H0 B H B' H' : Hp} {l : Addr} {s : Sl} (x : Ext C.U B H B' H') (h : OwnAt C H0 B H l s) : OwnAt C H0 B' H' l s := by
  obtain ⟨o, h1, h2, h3, h4, h5⟩ := h
  exact ⟨o, x.keep _ _ h1 h4, h2.mono x.b, x.stillNone h3 (by rw [h1]; exact fun z => nomatch z), h4, h5⟩
section
variable {C : Gho} {H0 B H B0 : Hp} {σ : L2.St} {ρ : Rho} {γ : D} {mg : Str → Option Value} {W : WX}
theorem St.own (S : St C H0 B σ H ρ γ) {i : Nat} {s : Sl} (h : ρ[i]? = some s) (hs : isO s = true) : ∃ l, σ[i]? = some (some (.ref l)) ∧ OwnAt C H0 B H l s := by
  cases s <;> first | (cases hs; done) | skip
  · obtain ⟨l, vs, h1, h2, h3, h4, h5, h6⟩ := S.ol i _ h
    exact ⟨l, h1, _, h2, h6, h3, h4, h5⟩
  · obtain ⟨l, vs, h1, h2, h3, h4, h5, h6⟩ := S.od i _ h
    exact ⟨l, h1, _, h2, h6, h3, h4, h5⟩
theorem ErF.updH {l : Addr} {o : HO} {fs : List (Str × D)} {od : Option Addr} (h : ErF C B H fs od) (hl : ∀ fs, H l ≠ some (.xd fs)) : ErF C B (upd H l o) fs od := by
  match fs, od, h with
  | [], none, _ => trivial
  | [(f, d)], some p, h =>
    obtain ⟨v, h1, h2⟩ := h
    exact ⟨v, by rw [upd_ne (fun e => hl _ (e ▸ h1))]; exact h1, h2⟩
  | [], some _, h => exact h.elim
  | [_], none, h => exact h.elim
  | _ :: _ :: _, _, h => exact h.elim
theorem ErF.updB {l : Addr} {o : HO} {fs : List (Str × D)} {od : Option Addr} (h : ErF C B H fs od) (m : Same B (upd B l o)) (hl : ∀ fs, H l ≠ some (.xd fs)) : ErF C (upd B l o) H fs od := by
  match fs, od, h with
  | [], none, _ => trivial
  | [(f, d)], some p, h =>
    obtain ⟨v, h1, h2, h3, h4⟩ := h
    exact ⟨v, h1, by rw [upd_ne (fun e => hl _ (e ▸ h1))]; exact h2, h3, Rep.mono m _ _ h4⟩
  | [], some _, h => exact h.elim
  | [_], none, h => exact h.elim
  | _ :: _ :: _, _, h => exact h.elim
theorem OwnC.nx {o : HO} {s : Sl} (h : OwnC C B o s) : ∀ fs, o ≠ .xd fs := fun fs e => by
  subst e
  cases s <;> exact h.elim
theorem St.setS (S : St C H0 B σ H ρ γ) {i : Nat} {l : Addr} {s : Sl} (a : OwnAt C H0 B H l s) (ap : ∀ (j : Nat) (t : Sl), j ≠ i → ρ[j]? = some t → isO t = true → σ[j]? ≠ some (some (.ref l))) : St C H0 B (σ.set i (some (.ref l))) H (ρ.set i s) γ where
  sub := S.sub
  uB := S.uB
  gh := S.gh
  len := by rw [List.length_set, List.length_set, S.len]
  val := fun j e h => by
    rcases get_set h with ⟨rfl, h1, h2⟩ | ⟨h1, h2⟩
    · subst h2
      obtain ⟨o, _, h3, _⟩ := a
      exact nomatch (show isO (.val e) = true from h3.isO)
    · rw [set_other h1]; exact S.val j e h2
  ol := fun j e h => by
    rcases get_set h with ⟨rfl, h1, h2⟩ | ⟨h1, h2⟩
    · subst h2
      obtain ⟨o, h3, h4, h5, h6, h7⟩ := a
      cases o <;> first | exact h4.elim | skip
      exact ⟨l, _, by rw [List.getElem?_set_self (by rw [S.len]; exact h1)], h3, h5, h6, h7, h4⟩
    · rw [set_other h1]; exact S.ol j e h2
  od := fun j e h => by
    rcases get_set h with ⟨rfl, h1, h2⟩ | ⟨h1, h2⟩
    · subst h2
      obtain ⟨o, h3, h4, h5, h6, h7⟩ := a
      cases o <;> first | exact h4.elim | skip
      exact ⟨l, _, by rw [List.getElem?_set_self (by rw [S.len]; exact h1)], h3, h5, h6, h7, h4⟩
    · rw [set_other h1]; exact S.od j e h2
  er := fun j L c fs h => by
    rcases get_set h with ⟨rfl, h1, h2⟩ | ⟨h1, h2⟩
    · subst h2
      obtain ⟨o, h3, h4, h5, h6, h7⟩ := a
      cases o <;> exact h4.elim
    · rw [set_other h1]; exact S.er j L c fs h2
  apart := fun a b s t l' h1 h2 h3 h4 h5 h6 => by
    rcases get_set h1 with ⟨e1, q1, r1⟩ | ⟨n1, q1⟩
    · rcases get_set h2 with ⟨e2, q2, r2⟩ | ⟨n2, q2⟩
      · exact e1.symm.trans e2
      · subst e1
        rw [List.getElem?_set_self (by rw [S.len]; exact q1)] at h5
        rw [set_other n2] at h6
        cases h5
        exact absurd h6 (ap b t (Ne.symm n2) q2 h4)
    · rcases get_set h2 with ⟨e2, q2, r2⟩ | ⟨n2, q2⟩
      · subst e2
        rw [List.getElem?_set_self (by rw [S.len]; exact q2)] at h6
        rw [set_other n1] at h5
        cases h6
        exact absurd h5 (ap a s (Ne.symm n1) q1 h3)
      · rw [set_other n1] at h5
        rw [set_other n2] at h6
        exact S.apart a b s t l' q1 q2 h3 h4 h5 h6
/-- a new object's place is nobody's -/
theorem St.apartNew (S : St C H0 B σ H ρ γ) {l : Addr} (h : H l = none) : ∀ (j : Nat) (t : Sl), ρ[j]? = some t → isO t = true → σ[j]? ≠ some (some (.ref l)) := by
  intro j t h1 h2 h3
  obtain ⟨l', e1, o, e2, _⟩ := S.own h1 h2
  rw [h3] at e1
  cases e1
  rw [h] at e2
  cases e2
theorem St.poke (S : St C H0 B σ H ρ γ) {i : Nat} {l : Addr} {s s' : Sl} {o : HO} (h : ρ[i]? = some s) (hs : isO s = true) (hl : σ[i]? = some (some (.ref l))) (ho : OwnC C B o s') : St C H0 B σ (upd H l o) (ρ.set i s') γ := by
  obtain ⟨l1, e1, o1, a1, a2, a3, a4, a5⟩ := S.own h hs
  rw [hl] at e1
  cases e1
  have ne : ∀ {j : Nat} {t : Sl} {l' : Addr}, i ≠ j → ρ[j]? = some t → isO t = true → σ[j]? = some (some (.ref l')) → l' ≠ l := by
    intro j t l' n h1 h2 h3 e
    subst e
    exact n (S.apart i j s t _ h h1 hs h2 hl h3)
  have sz : i < ρ.length := by
    by_cases q : i < ρ.length
    · exact q
    · rw [List.getElem?_eq_none (Nat.le_of_not_lt q)] at h; cases h
  exact {
    sub := fun a u q => by
      have : a ≠ l := fun e => by subst e; rw [a3] at q; cases q
      rw [upd_ne this]; exact S.sub a u q
    uB := S.uB
    gh := C.stayP S.gh a4
    len := by rw [List.length_set, S.len]
    val := fun j e q => by
      rcases get_set q with ⟨rfl, q1, q2⟩ | ⟨q1, q2⟩
      · subst q2; exact nomatch (show isO (.val e) = true from ho.isO)
      · exact S.val j e q2
    ol := fun j e q => by
      rcases get_set q with ⟨rfl, q1, q2⟩ | ⟨q1, q2⟩
      · subst q2
        cases o <;> first | exact ho.elim | skip
        exact ⟨l, _, hl, upd_same, a3, a4, a5, ho⟩
      · obtain ⟨l', vs, r1, r2, r3⟩ := S.ol j e q2
        exact ⟨l', vs, r1, by rw [upd_ne (ne q1 q2 rfl r1)]; exact r2, r3⟩
    od := fun j e q => by
      rcases get_set q with ⟨rfl, q1, q2⟩ | ⟨q1, q2⟩
      · subst q2
        cases o <;> first | exact ho.elim | skip
        exact ⟨l, _, hl, upd_same, a3, a4, a5, ho⟩
      · obtain ⟨l', vs, r1, r2, r3⟩ := S.od j e q2
        exact ⟨l', vs, r1, by rw [upd_ne (ne q1 q2 rfl r1)]; exact r2, r3⟩
    er := fun j L c fs q => by
      rcases get_set q with ⟨rfl, q1, q2⟩ | ⟨q1, q2⟩
      · subst q2
        cases o <;> exact ho.elim
      · obtain ⟨a, od, r1, r2, r3⟩ := S.er j L c fs q2
        exact ⟨a, od, r1, r2, r3.updH fun fs e => a2.nx fs (Option.some.inj (a1.symm.trans e))⟩
    apart := fun a b u t l' h1 h2 h3 h4 h5 h6 => by
      have f : ∀ {a : Nat} {u : Sl}, (ρ.set i s')[a]? = some u → isO u = true → ∃ u', ρ[a]? = some u' ∧ isO u' = true := by
        intro a u h1 h3
        rcases get_set h1 with ⟨rfl, q1, q2⟩ | ⟨q1, q2⟩
        · exact ⟨s, h, hs⟩
        · exact ⟨u, q2, h3⟩
      obtain ⟨u', g1, g2⟩ := f h1 h3
      obtain ⟨t', g3, g4⟩ := f h2 h4
      exact S.apart a b u' t' l' g1 g3 g2 g4 h5 h6 }
/-- a slot's own object becomes a value -/
theorem St.frz (S : St C H0 B σ H ρ γ) (x : Ext C.U B0 H0 B H) {i : Nat} {d : D} (h : getB ρ i = some d) : ∃ B', St C H0 B' σ H (ρ.set i (.val d)) γ ∧ Ext C.U B0 H0 B' H ∧ Same B B' := by
  have key : ∀ s, ρ[i]? = some s → isO s = true → ∀ (l : Addr) (o : HO), σ[i]? = some (some (V.ref l)) → H l = some o → (∀ fs, o ≠ .xd fs) → B l = none → ¬ C.U l → H0 l = none → Rep C.K C.hv (upd B l o) (.ref l) d → ∃ B', St C H0 B' σ H (ρ.set i (.val d)) γ ∧ Ext C.U B0 H0 B' H ∧ Same B B' := by
    intro s hs ho l o e1 e2 enx e3 e4 e5 r
    have m : Same B (upd B l o) := same_adopt e3
    have ne : ∀ {j : Nat} {t : Sl} {l' : Addr}, i ≠ j → ρ[j]? = some t → isO t = true → σ[j]? = some (some (.ref l')) → l' ≠ l := by
      intro j t l' n h1 h2 h3 e
      subst e
      exact n (S.apart i j s t _ hs h1 ho h2 e1 h3)
    have x' := x.adopt e5 e3 e2
    refine ⟨_, ?_, x', m⟩
    exact {
      sub := x'.s
      uB := fun a ha => by
        have : a ≠ l := fun e => by subst e; exact e4 ha
        rw [upd_ne this]; exact S.uB a ha
      gh := S.gh
      len := by rw [List.length_set, S.len]
      val := fun j e q => by
        rcases get_set q with ⟨rfl, q1, q2⟩ | ⟨q1, q2⟩
        · cases q2; exact ⟨_, e1, r⟩
        · obtain ⟨v, r1, r2⟩ := S.val j e q2
          exact ⟨v, r1, Rep.mono m _ _ r2⟩
      ol := fun j e q => by
        rcases get_set q with ⟨rfl, q1, q2⟩ | ⟨q1, q2⟩
        · cases q2
        · obtain ⟨l', vs, r1, r2, r3, r4, r5, r6⟩ := S.ol j e q2
          exact ⟨l', vs, r1, r2, by rw [upd_ne (ne q1 q2 rfl r1)]; exact r3, r4, r5, Reps.mono m _ _ r6⟩
      od := fun j e q => by
        rcases get_set q with ⟨rfl, q1, q2⟩ | ⟨q1, q2⟩
        · cases q2
        · obtain ⟨l', vs, r1, r2, r3, r4, r5, r6⟩ := S.od j e q2
          exact ⟨l', vs, r1, r2, by rw [upd_ne (ne q1 q2 rfl r1)]; exact r3, r4, r5, RepKv.mono m _ _ r6⟩
      er := fun j L c fs q => by
        rcases get_set q with ⟨rfl, q1, q2⟩ | ⟨q1, q2⟩
        · cases q2
        · obtain ⟨a, od, r1, r2, r3⟩ := S.er j L c fs q2
          exact ⟨a, od, r1, r2, r3.updB m fun fs e => enx fs (Option.some.inj (e2.symm.trans e))⟩
      apart := fun a b u t l' h1 h2 h3 h4 h5 h6 => by
        rcases get_set h1 with ⟨rfl, q1, q2⟩ | ⟨q1, q2⟩
        · subst q2; cases h3
        · rcases get_set h2 with ⟨rfl, w1, w2⟩ | ⟨w1, w2⟩
          · subst w2; cases h4
          · exact S.apart a b u t l' q2 w2 h3 h4 h5 h6 }
  unfold getB at h
  split at h
  · rename_i e
    cases h
    refine ⟨B, ?_, x, Same.refl _⟩
    have : ρ.set i (.val d) = ρ := by
      refine List.ext_getElem? fun j => ?_
      by_cases q : i = j
      · subst q
        have hl : i < ρ.length := by
          by_cases q : i < ρ.length
          · exact q
          · rw [List.getElem?_eq_none (Nat.le_of_not_lt q)] at e; cases e
        rw [List.getElem?_set_self hl, e]
      · rw [set_other q]
    rw [this]; exact S
  · rename_i e
    cases h
    obtain ⟨l, vs, h1, h2, h3, h4, h5, h6⟩ := S.ol i _ e
    exact key _ e rfl l _ h1 h2 (fun _ z => nomatch z) h3 h4 h5 (.lst upd_same (Reps.mono (same_adopt h3) _ _ h6))
  · rename_i e
    cases h
    obtain ⟨l, vs, h1, h2, h3, h4, h5, h6⟩ := S.od i _ e
    exact key _ e rfl l _ h1 h2 (fun _ z => nomatch z) h3 h4 h5 (.dic upd_same (RepKv.mono (same_adopt h3) _ _ h6))
  · cases h

/-! ### readings -/
def FinS (C : Gho) (mg : Str → Option Value) (B0 H0 Bk : Hp) (W : WX) (r : Rs) (Dn : Ends) : Prop := match r with
  | .nx ρ g => ∀ B σ H, St C H0 B σ H ρ g → Ext C.U B0 H0 B H → Same Bk B → Dn.nx σ H
  | .bk ρ g => ∀ B σ H, St C H0 B σ H ρ g → Ext C.U B0 H0 B H → Same Bk B → Dn.bk σ H
  | .ct ρ g => ∀ B σ H, St C H0 B σ H ρ g → Ext C.U B0 H0 B H → Same Bk B → Dn.ct σ H
  | .rt d g => ∀ v B H, Ext C.U B0 H0 B H → C.rep g H → Rep C.K C.hv B v d → Dn.rt v H
  | .ex c fs g => ∀ cls od σ B H, Ext C.U B0 H0 B H → C.rep g H → ExcIs C mg B H c fs cls od → W cls od σ H
  | .no => False
def tS (C : Gho) (mg : Str → Option Value) (B0 H0 : Hp) (W : WX) (s : S) : TS := fun Dn σ H => ∃ B ρ γ, St C H0 B σ H ρ γ ∧ Ext C.U B0 H0 B H ∧ FinS C mg B0 H0 B W (exec s ρ γ) Dn
def tSs (C : Gho) (mg : Str → Option Value) (B0 H0 : Hp) (W : WX) (s : List S) : TS := fun Dn σ H => ∃ B ρ γ, St C H0 B σ H ρ γ ∧ Ext C.U B0 H0 B H ∧ FinS C mg B0 H0 B W (execs s ρ γ) Dn
theorem FinS.bind {α : Type} {r : R α} {f : α → D → Rs} {Dn : Ends} {Bk : Hp} (h : FinS C mg B0 H0 Bk W (r.then f) Dn) (x : Ext C.U B0 H0 B H) : Fin C mg W B σ H r fun a g => FinS C mg B0 H0 Bk W (f a g) Dn := by
  cases r with
  | ok a g => exact h
  | exc c fs g => exact fun cls od B' H' y g' e => h cls od σ B' H' (x.trans y) g' e
  | no => exact h
theorem FinS.optS {α : Type} {o : Option α} {f : α → Rs} {Dn : Ends} {Bk : Hp} (h : FinS C mg B0 H0 Bk W (optS o f) Dn) : ∃ a, o = some a ∧ FinS C mg B0 H0 Bk W (f a) Dn := by
  cases o with
  | none => exact h.elim
  | some a => exact ⟨a, rfl, h⟩
theorem FinS.later {r : Rs} {Dn : Ends} {Bk Bk' : Hp} (h : FinS C mg B0 H0 Bk W r Dn) (m : Same Bk Bk') : FinS C mg B0 H0 Bk' W r Dn := by
  cases r with
  | nx ρ g => exact fun B σ H S x q => h B σ H S x (m.trans q)
  | bk ρ g => exact fun B σ H S x q => h B σ H S x (m.trans q)
  | ct ρ g => exact fun B σ H S x q => h B σ H S x (m.trans q)
  | rt d g => exact h
  | ex c fs g => exact h
  | no => exact h
end
end PyI

set_option maxRecDepth 100000
/-! PyI, part N: statements, the readings. -/
namespace PyI
open PySem PySem.Spec PyProof.Rows L2
variable {G : Gho → Prop}

section
variable {X : Cx} {N : List Str} {sc : Scope} {k : Nat} {C : Gho} {W : WX} {B0 H0 : Hp} {pos : Pos}
def notComp : Expr → Bool
  | .ListComp _ _ _ _ => false
  | .SetComp _ _ _ _ => false
  | .DictComp _ _ _ _ _ => false
  | _ => true
theorem sw_plain {e : Expr} {t : Option Expr} {l : Nat} {env : PySem.Env} (h : notComp e = true) : swapsWith e t l env = pure false := by
  cases e <;> first | (cases h; done) | rfl
theorem mul_st {B H : Hp} {σ : L2.St} {ρ : Rho} {γ : D} (S : St C H0 B σ H ρ γ) : ∀ a, C.U a → B a = none := S.uB

/-! ### values into names -/
theorem c_set_core {i : Nat} {e : E} {Dn : Ends} {σ : L2.St} {H : Hp} (hk : (kd e).le .clean = true) (h : tS C X.mg B0 H0 W (.set i e) Dn σ H) : tE C X.mg H0 W e σ H (fun v H1 => Dn.nx (σ.set i (some v)) H1) := by
  obtain ⟨B, ρ, γ, S, x0, hq⟩ := h
  rw [exec] at hq
  exact ⟨B, ρ, γ, S, (hq.bind x0).imp fun d g h1 => Done.le (k := .clean) hk fun v B' H' x1 g1 r => h1 _ _ _ ((S.ext x1 g1).set i r) (x0.trans x1) x1.b⟩
theorem c_setO_core {i : Nat} {e : E} {Dn : Ends} {σ : L2.St} {H : Hp} (hk : kd e = .fresh) (h : tS C X.mg B0 H0 W (.setO i e) Dn σ H) : tE C X.mg H0 W e σ H (fun v H1 => Dn.nx (σ.set i (some v)) H1) := by
  obtain ⟨B, ρ, γ, S, x0, hq⟩ := h
  rw [exec] at hq
  refine ⟨B, ρ, γ, S, (hq.bind x0).imp fun d g h1 => ?_⟩
  rw [hk]
  obtain ⟨s, e1, h2⟩ := h1.optS
  intro v B' H' x1 g1 r
  have S1 := S.ext x1 g1
  cases d <;> first | (cases e1; done) | skip
  · cases e1
    obtain ⟨l, vs, rfl, r1, r2, r3, r4⟩ := r
    refine h2 _ _ _ (S1.setS (i := i) ⟨_, r3, r4, r2, fun u => C.has γ H l S.gh u r1, x0.none_before r1⟩ fun j t _ a1 a2 a3 => ?_) (x0.trans x1) x1.b
    exact S.apartNew r1 j t a1 a2 a3
  · cases e1
    obtain ⟨l, vs, rfl, r1, r2, r3, r4⟩ := r
    refine h2 _ _ _ (S1.setS (i := i) ⟨_, r3, r4, r2, fun u => C.has γ H l S.gh u r1, x0.none_before r1⟩ fun j t _ a1 a2 a3 => ?_) (x0.trans x1) x1.b
    exact S.apartNew r1 j t a1 a2 a3
/-- the text name = value -/
theorem c_asg (ok : XOk G X N sc k C) {i : Nat} {y : Str} {p : Pos} {e : E} {x : Expr} {t : TS} (hi : N[i]? = some y) (hl : locB sc y = true) (hc : notComp x = true) (he : PE X x (tE C X.mg H0 W e))
    (core : ∀ Dn σ H, t Dn σ H → tE C X.mg H0 W e σ H (fun v H1 => Dn.nx (σ.set i (some v)) H1)) : PS X (.Assign [.Name y p] x pos) t := by
  refine ⟨fun pins s σ H Dn I h => ?_⟩
  exact (ps_set ok.nd (by rw [ok.hN]; exact hi) (ok.loc hl) he (sw_plain hc) (ok.locF hl)).run pins s σ H Dn I (core Dn σ H h)

/-- a comprehension into a name -/
def lcOwnB (y : Str) (scope : Scope) : Bool := !(scope.names.any fun (n, k) => n == y && (k == .local || k == .cell))
theorem c_asgLc (ok : XOk G X N sc k C) {i : Nat} {y : Str} {p p2 : Pos} {tg : Tg} {it : I} {ifs : List E} {elt : E} {tg' it' elt' : Expr} {ifs' : List Expr} {scope : Scope} {t : TS} (hi : N[i]? = some y) (hl : sc.names.lookup y = some .local) (hline : (p.line == p2.line) = true)
    (hown : lcOwnB y scope = true) (tk : Takes X W) (hm : mE N sc (.lc tg it ifs elt) (.ListComp elt' [⟨tg', it', ifs', 0⟩] scope p2) = true) (al : allE (Knows G X.prog X.w X.K X.mg X.base k) (Names X.K X.mg C) (.lc tg it ifs elt))
    (core : ∀ Dn σ H, t Dn σ H → tE C X.mg H0 W (.lc tg it ifs elt) σ H (fun v H1 => Dn.nx (σ.set i (some v)) H1)) : PS X (.Assign [.Name y p] (.ListComp elt' [⟨tg', it', ifs', 0⟩] scope p2) pos) t := by
  unfold mE at hm
  rw [allE] at al
  simp only [Bool.and_eq_true, decide_eq_true_eq] at hm
  obtain ⟨⟨⟨⟨⟨⟨⟨⟨⟨hcm, h1⟩, h2⟩, h3⟩, h4⟩, h5⟩, h6⟩, h7⟩, h8⟩, h9⟩ := hm
  have hk : (kd elt).le .clean = true := by cases hh : kd elt <;> rw [hh] at h7 <;> first | rfl | cases h7
  have hy : X.env.scope.names.lookup y = some .local := by
    obtain ⟨q', g1, g2⟩ := ok.sc _ _ hl
    rcases g2 with rfl | ⟨g2, _⟩
    · exact g1
    · cases g2
  refine ⟨fun pins s σ H Dn I h => ?_⟩
  have sw : swapsWith (.ListComp elt' [⟨tg', it', ifs', 0⟩] scope p2) (some (.Name y p)) pos.line X.env = pure true := by
    refine sw_true I.ok.kind hy hline ?_
    unfold lcOwnB at hown
    rw [Bool.not_eq_true'] at hown
    exact hown
  refine (ps_setLc (g := gTg X.K tg) (tt := tAll C X.mg H0 W0 ifs) (te := tE C X.mg H0 W0 elt) (wi := tI C X.mg H0 W it) (ok.calm hcm) ok.nd (by rw [ok.hN]; exact hi) hy sw (sI it ok tk h3 h9 al.1) (lc_blk ok h1) (fun s H D cl fp => g_tg (ok.blk hcm scope s H D cl fp) h2)
    (fun s H D cl fp => sAll ifs (ok.blk hcm scope s H D cl fp) takes0 h4 h5 al.2.1) (fun s H D cl fp => sE elt (ok.blk hcm scope s H D cl fp) takes0 h6 al.2.2) (lc_fold h8)).run pins s σ H Dn I ?_
  show tLc _ _ _ _ ((blkN N tg).map (·.2)) σ H _
  rw [blk_own]
  exact lc_imp ok (pr_of h2 h9) hk (core Dn σ H h)

/-! ### several values into several names -/
/-- values by the kind of the slot they are for: a slot's own is new at Hx -/
def RepM (C : Gho) (B' H' : Hp) : Hp → List (Nat × Bool) → List V → List D → Prop
  | _, [], [], [] => True
  | Hx, (_, true) :: is, v :: vs, d :: ds => ∃ l s H1, v = .ref l ∧ own d = some s ∧ Hx l = none ∧ H1 l ≠ none ∧ (∀ a, Hx a ≠ none → H1 a ≠ none) ∧ (∃ o, H' l = some o ∧ OwnC C B' o s ∧ B' l = none ∧ ¬ C.U l) ∧ RepM C B' H' H1 is vs ds
  | Hx, (_, false) :: is, v :: vs, d :: ds => Rep C.K C.hv B' v d ∧ RepM C B' H' Hx is vs ds
  | _, _, _, _ => False
def okM : List (Nat × Bool) → List D → Bool
  | [], [] => true
  | (_, true) :: is, d :: ds => (own d).isSome && okM is ds
  | (_, false) :: is, _ :: ds => okM is ds
  | _, _ => false
theorem okM_of : ∀ {is : List (Nat × Bool)} {ds : List D} {ρ ρ1 : Rho}, setPar ρ is ds = some ρ1 → okM is ds = true
  | [], [], _, _, _ => rfl
  | [], _ :: _, _, _, h => by simp [setPar] at h
  | (_, true) :: _, [], _, _, h => by simp [setPar] at h
  | (_, false) :: _, [], _, _, h => by simp [setPar] at h
  | (i, true) :: is, d :: ds, ρ, ρ1, h => by
    rw [setPar] at h
    cases e : own d with
    | none => rw [e] at h; cases h
    | some s =>
      rw [e] at h
      have h : setPar (ρ.set i s) is ds = some ρ1 := h
      simp only [okM, e, Option.isSome, okM_of h, Bool.and_self]
  | (i, false) :: is, d :: ds, ρ, ρ1, h => by
    rw [setPar] at h
    rw [okM]
    exact okM_of h
def DoneM (C : Gho) (B H : Hp) (γ : D) (is : List (Nat × Bool)) (ds : List D) (Q : List V → Hp → Prop) : Prop := ∀ vs B' H', Ext C.U B H B' H' → C.rep γ H' → RepM C B' H' H is vs ds → Q vs H'
def tAm (C : Gho) (mg : Str → Option Value) (H0 : Hp) (W : WX) (is : List (Nat × Bool)) (es : List E) : TA := fun σ H Q => ∃ B ρ γ, St C H0 B σ H ρ γ ∧ Fin C mg W B σ H (evs es ρ γ) fun ds g => okM is ds = true ∧ DoneM C B H g is ds Q
theorem RepM.len {B' H' : Hp} : ∀ {is : List (Nat × Bool)} {vs : List V} {ds : List D} {Hx : Hp}, RepM C B' H' Hx is vs ds → vs.length = is.length
  | [], [], [], _, _ => rfl
  | (_, true) :: is, v :: vs, d :: ds, Hx, h => by
    obtain ⟨l, s, H1, _, _, _, _, _, _, h⟩ := h
    simp only [List.length_cons, RepM.len h]
  | (_, false) :: is, v :: vs, d :: ds, Hx, h => by simp only [List.length_cons, RepM.len h.2]
  | [], _ :: _, _, _, h => h.elim
  | [], [], _ :: _, _, h => h.elim
  | (_, true) :: _, [], _, _, h => h.elim
  | (_, false) :: _, [], _, _, h => h.elim
  | (_, true) :: _, _ :: _, [], _, h => h.elim
  | (_, false) :: _, _ :: _, [], _, h => h.elim
theorem own_rep {d : D} {s : Sl} {v : V} {H B1 H1 : Hp} (e : own d = some s) (r : RepF C H B1 H1 v d) : ∃ l o, v = .ref l ∧ H l = none ∧ H1 l = some o ∧ OwnC C B1 o s ∧ B1 l = none := by
  cases d <;> first | (cases e; done) | skip
  · cases e
    obtain ⟨l, vs, rfl, r1, r2, r3, r4⟩ := r
    exact ⟨l, _, rfl, r1, r3, r4, r2⟩
  · cases e
    obtain ⟨l, vs, rfl, r1, r2, r3, r4⟩ := r
    exact ⟨l, _, rfl, r1, r3, r4, r2⟩
theorem Ext.dom {U : Addr → Prop} {B H B' H' : Hp} (x : Ext U B H B' H') : ∀ a, H a ≠ none → H' a ≠ none := fun a h => by
  by_cases u : U a
  · exact x.uk a u h
  · cases e : H a with
    | none => exact absurd e h
    | some o => rw [x.keep a o e u]; exact fun z => nomatch z
theorem a_m_nil : PA X [] (tAm C X.mg H0 W [] []) := by
  refine ⟨fun pos pins s σ H Q I hq => ?_⟩
  obtain ⟨B, ρ, γ, S, hq⟩ := hq
  rw [evs] at hq
  exact pa_nil.run pos pins s σ H Q I (hq.2 [] B H (Ext.refl S.sub) S.gh trivial)
theorem a_m_true {i : Nat} {is : List (Nat × Bool)} {e : E} {es : List E} {x : Expr} {xs : List Expr} (hs : notStar x = true) (hk : kd e = .fresh) (he : PE X x (tE C X.mg H0 W e)) (hes : PA X xs (tAm C X.mg H0 W is es)) : PA X (x :: xs) (tAm C X.mg H0 W ((i, true) :: is) (e :: es)) := by
  refine ⟨fun pos pins s σ H Q I hq => ?_⟩
  obtain ⟨B, ρ, γ, S, hq⟩ := hq
  rw [evs] at hq
  refine (pa_cons he hes (starEach_cons hs)).run pos pins s σ H Q I ⟨B, ρ, γ, S, hq.bind.imp fun d g h1 => ?_⟩
  rw [hk]
  intro v B1 H1 x1 g1 r1
  refine ⟨B1, ρ, g, S.ext x1 g1, (h1.ext x1).bind.imp fun ds g2 h2 => ?_⟩
  obtain ⟨h2, h3⟩ := h2
  rw [okM, Bool.and_eq_true] at h2
  obtain ⟨sl, e1⟩ := Option.isSome_iff_exists.mp h2.1
  obtain ⟨l, o, rfl, q1, q2, q3, q4⟩ := own_rep e1 r1
  refine ⟨h2.2, fun vs B2 H2 x2 g3 r2 => h3 _ _ _ (x1.trans x2) g3 ⟨l, sl, H1, rfl, e1, q1, by rw [q2]; exact (fun z => nomatch z), x1.dom, ⟨o, ?_, q3.mono x2.b, ?_, fun u => C.has γ H l S.gh u q1⟩, r2⟩⟩
  · exact x2.keep _ _ q2 fun u => C.has γ H l S.gh u q1
  · exact x2.stillNone q4 (by rw [q2]; exact fun z => nomatch z)
theorem RepM.earlier {B' H' H H1 : Hp} (hd : ∀ a, H a ≠ none → H1 a ≠ none) : ∀ {is : List (Nat × Bool)} {vs : List V} {ds : List D}, RepM C B' H' H1 is vs ds → RepM C B' H' H is vs ds
  | [], [], [], _ => trivial
  | (_, true) :: is, v :: vs, d :: ds, h => by
    obtain ⟨l, s, H2, h1, h2, h3, h4, h5, h6⟩ := h
    refine ⟨l, s, H2, h1, h2, ?_, h4, fun a ha => h5 a (hd a ha), h6⟩
    cases e : H l with
    | none => rfl
    | some o => exact absurd h3 (hd l (by rw [e]; exact fun z => nomatch z))
  | (_, false) :: is, v :: vs, d :: ds, h => ⟨h.1, RepM.earlier hd h.2⟩
  | [], _ :: _, _, h => h.elim
  | [], [], _ :: _, h => h.elim
  | (_, true) :: _, [], _, h => h.elim
  | (_, false) :: _, [], _, h => h.elim
  | (_, true) :: _, _ :: _, [], h => h.elim
  | (_, false) :: _, _ :: _, [], h => h.elim
theorem a_m_false {i : Nat} {is : List (Nat × Bool)} {e : E} {es : List E} {x : Expr} {xs : List Expr} (hs : notStar x = true) (hk : (kd e).le .clean = true) (he : PE X x (tE C X.mg H0 W e)) (hes : PA X xs (tAm C X.mg H0 W is es)) : PA X (x :: xs) (tAm C X.mg H0 W ((i, false) :: is) (e :: es)) := by
  refine ⟨fun pos pins s σ H Q I hq => ?_⟩
  obtain ⟨B, ρ, γ, S, hq⟩ := hq
  rw [evs] at hq
  refine (pa_cons he hes (starEach_cons hs)).run pos pins s σ H Q I ⟨B, ρ, γ, S, hq.bind.imp fun d g h1 => Done.le (k := .clean) hk fun v B1 H1 x1 g1 r1 => ?_⟩
  refine ⟨B1, ρ, g, S.ext x1 g1, (h1.ext x1).bind.imp fun ds g2 h2 => ?_⟩
  obtain ⟨h2, h3⟩ := h2
  rw [okM] at h2
  exact ⟨h2, fun vs B2 H2 x2 g3 r2 => h3 _ _ _ (x1.trans x2) g3 ⟨Rep.mono x2.b _ _ r1, r2.earlier x1.dom⟩⟩
def setV : L2.St → List Nat → List V → L2.St
  | σ, i :: is, v :: vs => setV (σ.set i (some v)) is vs
  | σ, _, _ => σ
theorem St.setPar {B H : Hp} {γ : D} : ∀ {is : List (Nat × Bool)} {vs : List V} {ds : List D} {Hx : Hp} {σ : L2.St} {ρ ρ1 : Rho}, St C H0 B σ H ρ γ → RepM C B H Hx is vs ds → setPar ρ is ds = some ρ1 → (∀ a, H0 a ≠ none → Hx a ≠ none) →
    (∀ (j : Nat) (t : Sl) (l : Addr), ρ[j]? = some t → isO t = true → σ[j]? = some (some (.ref l)) → Hx l ≠ none) → St C H0 B (setV σ (is.map (·.1)) vs) H ρ1 γ
  | [], [], [], Hx, σ, ρ, ρ1, S, _, h, _, _ => by cases h; exact S
  | (i, true) :: is, v :: vs, d :: ds, Hx, σ, ρ, ρ1, S, r, h, h0, hd => by
    obtain ⟨l, s, H1, rfl, h2, h3, h4, h5, ⟨o, q1, q2, q3, q4⟩, h6⟩ := r
    rw [PyI.setPar, h2] at h
    have hl0 : H0 l = none := by
      cases e : H0 l with
      | none => rfl
      | some u => exact absurd h3 (h0 l (by rw [e]; exact fun z => nomatch z))
    have S1 := S.setS (i := i) ⟨o, q1, q2, q3, q4, hl0⟩ fun j t _ a1 a2 a3 => hd j t l a1 a2 a3 h3
    show St C H0 B (setV (σ.set i (some (.ref l))) (is.map (·.1)) vs) H ρ1 γ
    refine St.setPar S1 h6 h (fun a ha => h5 a (h0 a ha)) fun j t l' a1 a2 a3 => ?_
    rcases get_set a1 with ⟨e1, e2, e3⟩ | ⟨e1, e2⟩
    · subst e1
      rw [List.getElem?_set_self (by rw [S.len]; exact e2)] at a3
      cases a3
      exact h4
    · rw [set_other e1] at a3
      exact h5 l' (hd j t l' e2 a2 a3)
  | (i, false) :: is, v :: vs, d :: ds, Hx, σ, ρ, ρ1, S, r, h, h0, hd => by
    rw [PyI.setPar] at h
    show St C H0 B (setV (σ.set i (some v)) (is.map (·.1)) vs) H ρ1 γ
    refine St.setPar (S.set i r.1) r.2 h h0 fun j t l' a1 a2 a3 => ?_
    rcases get_set a1 with ⟨e1, e2, e3⟩ | ⟨e1, e2⟩
    · subst e3; cases a2
    · rw [set_other e1] at a3
      exact hd j t l' e2 a2 a3
  | [], _ :: _, _, _, _, _, _, _, h, _, _, _ => h.elim
  | [], [], _ :: _, _, _, _, _, _, h, _, _, _ => h.elim
  | (_, true) :: _, [], _, _, _, _, _, _, h, _, _, _ => h.elim
  | (_, false) :: _, [], _, _, _, _, _, _, h, _, _, _ => h.elim
  | (_, true) :: _, _ :: _, [], _, _, _, _, _, h, _, _, _ => h.elim
  | (_, false) :: _, _ :: _, [], _, _, _, _, _, h, _, _, _ => h.elim
/-- what the values of several names come to -/
theorem par_core {is : List (Nat × Bool)} {es : List E} {Dn : Ends} {σ : L2.St} {H : Hp} (h : tS C X.mg B0 H0 W (.par is es) Dn σ H) :
    tAm C X.mg H0 W is es σ H fun vs H1 => vs.length = is.length ∧ Dn.nx (setV σ (is.map (·.1)) vs) H1 ∧ ∀ p o, H1 p = none → Dn.nx (setV σ (is.map (·.1)) vs) (upd H1 p o) := by
  obtain ⟨B, ρ, γ, S, x0, hq⟩ := h
  rw [exec] at hq
  refine ⟨B, ρ, γ, S, (hq.bind x0).imp fun ds g h1 => ?_⟩
  obtain ⟨ρ1, e1, h2⟩ := h1.optS
  refine ⟨okM_of e1, fun vs B' H' x1 g1 r => ?_⟩
  have S1 := S.ext x1 g1
  have S2 := St.setPar S1 r e1 x0.dom fun j t l a1 a2 a3 => by
    obtain ⟨l', q1, o, q2, _⟩ := S.own a1 a2
    rw [a3] at q1
    cases q1
    rw [q2]; exact fun z => nomatch z
  refine ⟨r.len, h2 _ _ _ S2 (x0.trans x1) x1.b, fun p o hp => ?_⟩
  have x2 : Ext C.U B' H' B' (upd H' p o) := Ext.alloc S1.sub hp
  exact h2 _ _ _ (S2.ext x2 (C.stayE g1 hp)) ((x0.trans x1).trans x2) (x1.b.trans x2.b)
theorem setV_gNames {Q : L2.St → Hp → Prop} {H : Hp} : ∀ {is : List Nat} {vs : List V} {σ : L2.St}, vs.length = is.length → Q (setV σ is vs) H → gNames is vs σ H Q
  | [], [], σ, _, q => ⟨rfl, q⟩
  | i :: is, v :: vs, σ, h, q => ⟨v, vs, rfl, setV_gNames (by simpa using h) q⟩
  | [], _ :: _, _, h, _ => by simp at h
  | _ :: _, [], _, h, _ => by simp at h
end
end PyI

set_option maxRecDepth 100000
/-! PyI, part O: statements, the program's text. -/
namespace PyI
open PySem PySem.Spec PyProof.Rows L2
variable {G : Gho → Prop}

section
variable {X : Cx} {N : List Str} {sc : Scope} {k : Nat} {C : Gho} {W : WX} {B0 H0 : Hp} {pos : Pos}
theorem block_fn {env : PySem.Env} (hk : env.scope.kind = .function) : env.blockKind = .function := by
  unfold Env.blockKind; rw [hk]; rfl
theorem sw2 {x y : Str} {a b : Expr} {px py pt pt2 : Pos} {kt k2 : Nat} {env : PySem.Env} (hk : env.scope.kind = .function) (hx : env.scope.names.lookup x = some .local) (hy : env.scope.names.lookup y = some .local) (hl : (py.line == px.line) = true) (hxy : x ≠ y)
    (ha : notStar a = true) (hb : notStar b = true) (hf : ([a, b].all (foldedForSure 8)) = false) (hc : ([a, b].all (constantsAlone 8)) = false) :
    swappedStores [.Tuple [.Name x px, .Name y py] kt pt] (.Tuple [a, b] k2 pt2) env = pure (some [x, y]) := by
  have kx : env.kindOf x = some .local := hx
  have ky : env.kindOf y = some .local := hy
  have hne : (y == x) = false := by simpa using Ne.symm hxy
  unfold swappedStores
  simp only [block_fn hk, List.any_cons, List.any_nil, List.filterMap_cons, List.filterMap_nil, kx, ky, Expr.pos, List.head?_cons, Option.map_some, Option.getD_some, beq_self_eq_true, hl, Bool.and_self, if_true, hf, hc, List.length_cons, List.length_nil, List.eraseDups_cons, List.eraseDups_nil, List.filter_cons, List.filter_nil, hne]
  rw [if_neg (by decide), if_neg, if_neg (by simp [List.eraseDups_cons]), if_neg (by decide), if_neg (by decide)]
  intro h
  rw [Bool.or_eq_true, Bool.or_eq_true] at h
  rcases h with h | h | h
  · revert h; cases a <;> first | (cases ha; done) | (intro h; cases h; done)
  · revert h; cases b <;> first | (cases hb; done) | (intro h; cases h; done)
  · cases h
theorem sw3 {x y z : Str} {a b c : Expr} {px py pz pt pt2 : Pos} {kt k2 : Nat} {env : PySem.Env} (hk : env.scope.kind = .function) (hx : env.scope.names.lookup x = some .local) (hy : env.scope.names.lookup y = some .local) (hz : env.scope.names.lookup z = some .local) (hl : (py.line == px.line) = true) (hl2 : (pz.line == px.line) = true) (hxy : x ≠ y) (hxz : x ≠ z) (hyz : y ≠ z)
    (ha : notStar a = true) (hb : notStar b = true) (hc' : notStar c = true) (hf : ([a, b, c].all (foldedForSure 8)) = false) (hc : ([a, b, c].all (constantsAlone 8)) = false) :
    swappedStores [.Tuple [.Name x px, .Name y py, .Name z pz] kt pt] (.Tuple [a, b, c] k2 pt2) env = pure (some [x, y, z]) := by
  have kx : env.kindOf x = some .local := hx
  have ky : env.kindOf y = some .local := hy
  have kz : env.kindOf z = some .local := hz
  have h1 : (y == x) = false := by simpa using Ne.symm hxy
  have h2 : (z == x) = false := by simpa using Ne.symm hxz
  have h3 : (z == y) = false := by simpa using Ne.symm hyz
  unfold swappedStores
  simp only [block_fn hk, List.any_cons, List.any_nil, List.filterMap_cons, List.filterMap_nil, kx, ky, kz, Expr.pos, List.head?_cons, Option.map_some, Option.getD_some, beq_self_eq_true, hl, hl2, Bool.and_self, if_true, hf, hc, List.length_cons, List.length_nil, List.eraseDups_cons, List.eraseDups_nil, List.filter_cons, List.filter_nil, h1, h2, Bool.not_false]
  rw [if_neg (by decide), if_neg, if_neg (by simp [h3, List.eraseDups_cons]), if_neg (by decide), if_neg (by decide)]
  intro h
  rw [Bool.or_eq_true, Bool.or_eq_true, Bool.or_eq_true] at h
  rcases h with h | h | h | h
  · revert h; cases a <;> first | (cases ha; done) | (intro h; cases h; done)
  · revert h; cases b <;> first | (cases hb; done) | (intro h; cases h; done)
  · revert h; cases c <;> first | (cases hc'; done) | (intro h; cases h; done)
  · cases h
theorem swN {ts vs : List Expr} {pt pt2 : Pos} {kt k2 : Nat} {env : PySem.Env} (h : 4 ≤ ts.length) : swappedStores [.Tuple ts kt pt] (.Tuple vs k2 pt2) env = pure none := by
  unfold swappedStores
  have h2 : (ts.length == 2) = false := by simp; omega
  have h3 : (ts.length == 3) = false := by simp; omega
  simp only [h2, h3]
  rfl
theorem swF {ts vs : List Expr} {pt pt2 : Pos} {kt k2 : Nat} {env : PySem.Env} (h : vs.all (foldedForSure 8) = true) : swappedStores [.Tuple ts kt pt] (.Tuple vs k2 pt2) env = pure none := by
  unfold swappedStores
  simp only [h, if_true]
  split
  · rfl
  · split
    · rfl
    · split
      · rfl
      · rfl
theorem filter_short {α β : Type} {f : α → Option β} : ∀ {l : List α}, (∃ t ∈ l, f t = none) → (l.filterMap f).length < l.length
  | [], ⟨_, h, _⟩ => by cases h
  | a :: l, ⟨t, h, e⟩ => by
    rw [List.filterMap_cons]
    rcases List.mem_cons.mp h with rfl | h
    · rw [e]
      exact Nat.lt_succ_of_le (List.length_filterMap_le _ _)
    · have := filter_short ⟨t, h, e⟩
      cases f a with
      | none => exact Nat.lt_succ_of_lt this
      | some b => exact Nat.succ_lt_succ this
/-- a target that a comprehension sees -/
def cellT (sc : Scope) : Expr → Bool
  | .Name x _ => decide (sc.names.lookup x = some .cell)
  | _ => false
theorem swC {ts vs : List Expr} {pt pt2 : Pos} {kt k2 : Nat} {env : PySem.Env} (h : ts.any (cellT env.scope) = true) : swappedStores [.Tuple ts kt pt] (.Tuple vs k2 pt2) env = pure none := by
  obtain ⟨t, ht, hc⟩ := List.any_eq_true.mp h
  cases t <;> first | (cases hc; done) | skip
  rename_i x px
  have hk : env.kindOf x = some .cell := of_decide_eq_true hc
  have key : ∀ l : Nat, ((ts.filterMap fun
    | .Name id pos => if env.kindOf id == some .local && pos.line == l then some id else none
    | _ => none).length != ts.length) = true := by
    intro l
    have h1 := filter_short (f := fun (e : Expr) => match e with
      | .Name id pos => if env.kindOf id == some .local && pos.line == l then some id else none
      | _ => none) (l := ts) ⟨_, ht, by
        have h0 : (env.kindOf x == some NameKind.local) = false := by rw [hk]; decide
        simp only [h0, Bool.false_and, Bool.false_eq_true, if_false]⟩
    simp only [bne_iff_ne, ne_eq]
    intro e
    rw [e] at h1
    exact Nat.lt_irrefl _ h1
  unfold swappedStores
  dsimp only
  split
  · rfl
  · split
    · rfl
    · refine if_pos ?_
      rw [Bool.or_eq_true]
      exact .inl (key _)
end
end PyI

set_option maxRecDepth 100000
/-! PyI, part P: statements, the rules. -/
namespace PyI
open PySem PySem.Spec PyProof.Rows L2
variable {G : Gho → Prop}

section
variable {X : Cx} {N : List Str} {sc : Scope} {k : Nat} {C : Gho} {W : WX} {B0 H0 : Hp} {pos : Pos}
/-! ### several at once -/
def modeOk : List (Nat × Bool) → List E → Bool
  | [], [] => true
  | (_, true) :: is, e :: es => decide (kd e = .fresh) && modeOk is es
  | (_, false) :: is, e :: es => noB (kd e) && modeOk is es
  | _, _ => false
theorem noB_le {a : Kd} (h : noB a = true) : a.le .clean = true := by cases a <;> first | rfl | cases h
theorem a_m : ∀ {is : List (Nat × Bool)} {es : List E} {xs : List Expr}, XOk G X N sc k C → Takes X W → mEs N sc es xs = true → modeOk is es = true → allEs (Knows G X.prog X.w X.K X.mg X.base k) (Names X.K X.mg C) es → PA X xs (tAm C X.mg H0 W is es)
  | [], [], xs, ok, tk, h, hm, al => by
    unfold mEs at h; split at h
    · exact a_m_nil
    · cases h
  | (i, true) :: is, e :: es, xs, ok, tk, h, hm, al => by
    unfold mEs at h; rw [allEs] at al; split at h
    · simp only [Bool.and_eq_true] at h
      rw [modeOk, Bool.and_eq_true, decide_eq_true_eq] at hm
      exact a_m_true h.1.2 hm.1 (sE e ok tk h.1.1 al.1) (a_m ok tk h.2 hm.2 al.2)
    · cases h
  | (i, false) :: is, e :: es, xs, ok, tk, h, hm, al => by
    unfold mEs at h; rw [allEs] at al; split at h
    · simp only [Bool.and_eq_true] at h
      rw [modeOk, Bool.and_eq_true] at hm
      exact a_m_false h.1.2 (noB_le hm.1) (sE e ok tk h.1.1 al.1) (a_m ok tk h.2 hm.2 al.2)
    · cases h
  | [], _ :: _, _, _, _, _, hm, _ => by cases hm
  | (_, true) :: _, [], _, _, _, _, hm, _ => by cases hm
  | (_, false) :: _, [], _, _, _, _, hm, _ => by cases hm
theorem modeOk_len : ∀ {is : List (Nat × Bool)} {es : List E}, modeOk is es = true → is.length = es.length
  | [], [], _ => rfl
  | (_, true) :: is, e :: es, h => by rw [modeOk, Bool.and_eq_true] at h; simp [modeOk_len h.2]
  | (_, false) :: is, e :: es, h => by rw [modeOk, Bool.and_eq_true] at h; simp [modeOk_len h.2]
  | [], _ :: _, h => by cases h
  | (_, true) :: _, [], h => by cases h
  | (_, false) :: _, [], h => by cases h
theorem tAm.imp {is : List (Nat × Bool)} {es : List E} {σ : L2.St} {H : Hp} {Q Q' : List V → Hp → Prop} {mg : Str → Option Value} (h : tAm C mg H0 W is es σ H Q) (i : ∀ vs H, Q vs H → Q' vs H) : tAm C mg H0 W is es σ H Q' := by
  obtain ⟨B, ρ, γ, S, hq⟩ := h
  exact ⟨B, ρ, γ, S, hq.imp fun ds g h => ⟨h.1, fun vs B' H' x g1 r => i _ _ (h.2 vs B' H' x g1 r)⟩⟩
def locS (sc : Scope) (x : Str) : Bool := decide (sc.names.lookup x = some .local)
theorem XOk.locL (ok : XOk G X N sc k C) {x : Str} (h : locS sc x = true) : X.env.scope.names.lookup x = some .local := by
  unfold locS at h
  rw [decide_eq_true_eq] at h
  obtain ⟨q', g1, g2⟩ := ok.sc _ _ h
  rcases g2 with rfl | ⟨g2, _⟩
  · exact g1
  · cases g2
/-- how the stores are ordered -/
def parWay (sc : Scope) (ts vs : List Expr) : Bool := decide (ts.length ≤ 60) && (decide (4 ≤ ts.length) || vs.all (foldedForSure 8) || ts.any (cellT sc) || match ts with
  | [.Name x px, .Name y py] => locS sc x && locS sc y && (py.line == px.line) && !(vs.all (foldedForSure 8)) && !(vs.all (constantsAlone 8))
  | [.Name x px, .Name y py, .Name z pz] => locS sc x && locS sc y && locS sc z && (py.line == px.line) && (pz.line == px.line) && !(vs.all (foldedForSure 8)) && !(vs.all (constantsAlone 8))
  | _ => false)
theorem mEs_star : ∀ {es : List E} {xs : List Expr}, mEs N sc es xs = true → ∀ x ∈ xs, notStar x = true
  | [], [], _ => by simp
  | [], _ :: _, h => by simp [mEs] at h
  | _ :: _, [], h => by simp [mEs] at h
  | e :: es, y :: xs, h => by
    simp only [mEs, Bool.and_eq_true] at h
    intro x hx
    rcases List.mem_cons.mp hx with rfl | hx
    · exact h.1.2
    · exact mEs_star h.2 x hx
theorem tg_len : ∀ {is : List Nat} {xs : List Expr}, tgNames N sc is xs = true → is.length = xs.length
  | [], [], _ => rfl
  | [], _ :: _, h => by simp [tgNames] at h
  | _ :: _, [], h => by simp [tgNames] at h
  | i :: is, x :: xs, h => by
    cases x <;> first | (simp [tgNames] at h; done) | skip
    simp only [tgNames, Bool.and_eq_true] at h
    simp [tg_len h.2]
theorem nd_ix {N : List Str} (n : N.Nodup) {i j : Nat} {x : Str} (h1 : N[i]? = some x) (h2 : N[j]? = some x) : i = j := by
  obtain ⟨a1, b1⟩ := List.getElem?_eq_some_iff.mp h1
  exact (List.getElem?_inj a1 n).mp (h1.trans h2.symm)
theorem XOk.cellT (ok : XOk G X N sc k C) {t : Expr} (h : PyI.cellT sc t = true) : PyI.cellT X.env.scope t = true := by
  cases t <;> first | (cases h; done) | skip
  obtain ⟨q', g1, g2⟩ := ok.sc _ _ (of_decide_eq_true h)
  rcases g2 with rfl | ⟨g2, _⟩
  · exact decide_eq_true g1
  · cases g2
theorem c_par (ok : XOk G X N sc k C) (hcm : calmB sc = true) (tk : Takes X W) {is : List (Nat × Bool)} {es : List E} {ts vs : List Expr} {kt k2 : Nat} {pt pt2 : Pos} (ht : tgNames N sc (is.map (·.1)) ts = true) (hv : mEs N sc es vs = true) (hm : modeOk is es = true) (hd : (is.map (·.1)).Nodup) (hw : parWay sc ts vs = true)
    (al : allEs (Knows G X.prog X.w X.K X.mg X.base k) (Names X.K X.mg C) es) : PS X (.Assign [.Tuple ts kt pt] (.Tuple vs k2 pt2) pos) (tS C X.mg B0 H0 W (.par is es)) := by
  have pa : PA X vs (tAm C X.mg H0 W is es) := a_m ok tk hv hm al
  unfold parWay at hw
  rw [Bool.and_eq_true, decide_eq_true_eq] at hw
  obtain ⟨hsz, hw⟩ := hw
  have hlen : (is.map (·.1)).length = ts.length := tg_len ht
  have flat : swappedStores [.Tuple ts kt pt] (.Tuple vs k2 pt2) X.env = pure none → PS X (.Assign [.Tuple ts kt pt] (.Tuple vs k2 pt2) pos) (tS C X.mg B0 H0 W (.par is es)) := by
    intro sw
    obtain ⟨h1, h2, h3⟩ := g_names ok ht
    refine ⟨fun pins s σ H Dn I h => ?_⟩
    refine (ps_asg (pe_tup pa) (pg_tup (ok.calm hcm) h1 h2 h3) rfl sw).run pins s σ H Dn I ?_
    refine (par_core h).imp fun us H1 ⟨q1, q2, q3⟩ => ⟨?_, fun p hp => ?_⟩
    · rw [q1, ← List.length_map (f := (·.1)), hlen]
      exact size60 hsz
    · exact ⟨p, us, rfl, .inl (.inl upd_same), by rw [q1, List.length_map], setV_gNames (by rw [q1, List.length_map]) (q3 p _ hp)⟩
  rw [Bool.or_eq_true, Bool.or_eq_true, Bool.or_eq_true] at hw
  rcases hw with ((hw | hw) | hw) | hw
  · exact flat (swN (by simpa using hw))
  · exact flat (swF hw)
  · refine flat (swC (List.any_eq_true.mpr ?_))
    obtain ⟨t, h1, h2⟩ := List.any_eq_true.mp hw
    exact ⟨t, h1, ok.cellT h2⟩
  · split at hw
    · rename_i x px y py
      simp only [Bool.and_eq_true, Bool.not_eq_true'] at hw
      obtain ⟨⟨⟨⟨w1, w2⟩, w3⟩, w4⟩, w5⟩ := hw
      have l2 : vs.length = 2 := by
        have := mEs_len hv
        have := modeOk_len hm
        simp at hlen
        omega
      obtain ⟨a, b, rfl⟩ : ∃ a b, vs = [a, b] := by
        match vs, l2 with
        | [a, b], _ => exact ⟨a, b, rfl⟩
      obtain ⟨⟨i, m1⟩, ⟨j, m2⟩, rfl⟩ : ∃ a b, is = [a, b] := by
        have l3 : is.length = 2 := by simp at hlen; omega
        match is, l3 with
        | [a, b], _ => exact ⟨a, b, rfl⟩
      simp only [List.map_cons, List.map_nil, tgNames, Bool.and_eq_true, decide_eq_true_eq] at ht
      have hij : i ≠ j := by
        intro e; subst e; simp at hd
      have hxy : x ≠ y := by
        intro e
        subst e
        have n := ok.nd
        rw [ok.hN] at n
        exact hij (nd_ix n ht.1.1 ht.2.1.1)
      refine ⟨fun pins s σ H Dn I h => ?_⟩
      refine (ps_par (ok.calm hcm) ok.nd (by rw [ok.hN]; exact ht.1.1) (by rw [ok.hN]; exact ht.2.1.1) hij (ok.locL w1) (ok.locL w2) pa (sw2 I.ok.kind (ok.locL w1) (ok.locL w2) w3 hxy (mEs_star hv _ (by simp)) (mEs_star hv _ (by simp)) w4 w5) rfl).run pins s σ H Dn I ?_
      refine (par_core h).imp fun us H1 ⟨q1, q2, q3⟩ => ?_
      match us, q1, q2 with
      | [u, v], _, q2 => exact ⟨u, v, rfl, q2⟩
    · rename_i x px y py z pz
      simp only [Bool.and_eq_true, Bool.not_eq_true'] at hw
      obtain ⟨⟨⟨⟨⟨⟨w1, w2⟩, w2'⟩, w3⟩, w3'⟩, w4⟩, w5⟩ := hw
      have l2 : vs.length = 3 := by
        have := mEs_len hv
        have := modeOk_len hm
        simp at hlen
        omega
      obtain ⟨a, b, c, rfl⟩ : ∃ a b c, vs = [a, b, c] := by
        match vs, l2 with
        | [a, b, c], _ => exact ⟨a, b, c, rfl⟩
      obtain ⟨⟨i, m1⟩, ⟨j, m2⟩, ⟨l, m3⟩, rfl⟩ : ∃ a b c, is = [a, b, c] := by
        have l3 : is.length = 3 := by simp at hlen; omega
        match is, l3 with
        | [a, b, c], _ => exact ⟨a, b, c, rfl⟩
      simp only [List.map_cons, List.map_nil, tgNames, Bool.and_eq_true, decide_eq_true_eq] at ht
      have hij : i ≠ j := by intro e; subst e; simp at hd
      have hil : i ≠ l := by intro e; subst e; simp at hd
      have hjl : j ≠ l := by intro e; subst e; simp at hd
      have ne : ∀ {i j : Nat} {x y : Str}, N[i]? = some x → N[j]? = some y → i ≠ j → x ≠ y := by
        intro i j x y h1 h2 hij e
        subst e
        have n := ok.nd
        rw [ok.hN] at n
        exact hij (nd_ix n h1 h2)
      refine ⟨fun pins s σ H Dn I h => ?_⟩
      refine (ps_par3 (ok.calm hcm) ok.nd (by rw [ok.hN]; exact ht.1.1) (by rw [ok.hN]; exact ht.2.1.1) (by rw [ok.hN]; exact ht.2.2.1.1) hij hil hjl (ok.locL w1) (ok.locL w2) (ok.locL w2') pa
        (sw3 I.ok.kind (ok.locL w1) (ok.locL w2) (ok.locL w2') w3 w3' (ne ht.1.1 ht.2.1.1 hij) (ne ht.1.1 ht.2.2.1.1 hil) (ne ht.2.1.1 ht.2.2.1.1 hjl) (mEs_star hv _ (by simp)) (mEs_star hv _ (by simp)) (mEs_star hv _ (by simp)) w4 w5) rfl).run pins s σ H Dn I ?_
      refine (par_core h).imp fun us H1 ⟨q1, q2, q3⟩ => ?_
      match us, q1, q2 with
      | [u, v, w], _, q2 => exact ⟨u, v, w, rfl, q2⟩
    · cases hw
end
end PyI

set_option maxRecDepth 100000
/-! PyI, part Q: statements, the rules, on. -/
namespace PyI
open PySem PySem.Spec PyProof.Rows L2
variable {G : Gho → Prop}

section
variable {X : Cx} {N : List Str} {sc : Scope} {k : Nat} {C : Gho} {W : WX} {B0 H0 : Hp} {pos : Pos}
theorem sw_sole {x t : Expr} {l : Nat} {env : PySem.Env} (h : notComp x = true) : swapsWithSole [t] x l env = pure false := sw_plain h
theorem few1 {e : Expr} (h : notStar e = true) {cpos : Pos} {env : PySem.Env} : ((backTo cpos (starEach [e] env)).all (fun x => !x.1) && (backToKw cpos (keywordEach [] env)).all (fun x => x.1.isSome)
      && decide ([e].length + ([] : List Keyword).length + (if ([] : List Keyword).isEmpty then 0 else 1) < 30)) = true := by
  rw [starEach_cons h]; rfl
theorem few2 {e e2 : Expr} (h : notStar e = true) (h2 : notStar e2 = true) {cpos : Pos} {env : PySem.Env} : ((backTo cpos (starEach [e, e2] env)).all (fun x => !x.1) && (backToKw cpos (keywordEach [] env)).all (fun x => x.1.isSome)
      && decide ([e, e2].length + ([] : List Keyword).length + (if ([] : List Keyword).isEmpty then 0 else 1) < 30)) = true := by
  rw [starEach_cons h, starEach_cons h2]; rfl
theorem plain2 {e2 : Expr} (h2 : notStar e2 = true) {cpos : Pos} {env : PySem.Env} : (backTo cpos (starEach [e2] env)).any (·.1) = false := by
  rw [starEach_cons h2]; rfl
theorem getOl_of {ρ : Rho} {i : Nat} {xs : List D} (h : getOl ρ i = some xs) : ρ[i]? = some (.ol xs) := by
  unfold getOl at h
  split at h
  · rename_i e; cases h; exact e
  · cases h
theorem getO_of {ρ : Rho} {i : Nat} {s : Sl} (h : getO ρ i = some s) : ρ[i]? = some s ∧ isO s = true := by
  unfold getO at h
  split at h
  · rename_i e; cases h; exact ⟨e, rfl⟩
  · rename_i e; cases h; exact ⟨e, rfl⟩
  · cases h
/-- a list's method as a statement -/
theorem c_app (ok : XOk G X N sc k C) {i : Nat} {y : Str} {e : E} {x : Expr} {p ap cp : Pos} (hn : nameB N sc i y = true) (hline : (ap.endLine == cp.line) = true) (hs : notStar x = true) (hk : (kd e).le .clean = true) (he : PE X x (tE C X.mg H0 W e)) :
    PS X (.Expr (.Call (.Attribute (.Name y p) "append" ap) [x] [] cp) pos) (tS C X.mg B0 H0 W (.app i e)) := by
  refine ⟨fun pins s σ H Dn I h => ?_⟩
  obtain ⟨B, ρ, γ, S, x0, hq⟩ := h
  rw [exec] at hq
  obtain ⟨xs, g0, hq⟩ := hq.optS
  have g1 := getOl_of g0
  obtain ⟨l, vs, a1, a2, a3, a4, a5, a6⟩ := S.ol i xs g1
  refine (ps_expr (pe_bm PySem.F.plainAttrs_list PySem.F.slot_list_append PySem.F.type_list_append mt_append (ok.name hn) (pa_cons he pa_nil (starEach_cons hs)) rfl (few1 hs) hline (starEach_cons hs) rfl) (sw_plain rfl)).run pins s σ H Dn I ?_
  refine ⟨_, a1, .inl ⟨rfl, vs, .inl (.inl a2)⟩, B, ρ, γ, S, (hq.bind x0).imp fun d g h1 => Done.le (k := .clean) hk fun v B1 H1 x1 g1' r1 => ?_⟩
  have S1 := S.ext x1 g1'
  have b2 := x1.keep _ _ a2 a4
  have b3 := x1.stillNone a3 (by rw [a2]; exact fun z => nomatch z)
  split at h1
  · rename_i hz
    have r6 : Reps C.K C.hv B1 (vs ++ [v]) (xs ++ [d]) := Reps.append (Reps.mono x1.b _ _ a6) (.cons r1 .nil)
    exact ⟨l, vs, v, rfl, rfl, b2, by rw [a6.length]; exact hz, h1 _ _ _ (S1.poke g1 rfl a1 (o := .lst (vs ++ [v])) r6) ((x0.trans x1).poke a5 b3) x1.b⟩
  · exact h1.elim
theorem c_ext (ok : XOk G X N sc k C) {i : Nat} {y : Str} {e : E} {x : Expr} {p ap cp : Pos} (hn : nameB N sc i y = true) (hline : (ap.endLine == cp.line) = true) (hs : notStar x = true) (hk : (kd e).le .clean = true) (he : PE X x (tE C X.mg H0 W e)) :
    PS X (.Expr (.Call (.Attribute (.Name y p) "extend" ap) [x] [] cp) pos) (tS C X.mg B0 H0 W (.ext i e)) := by
  refine ⟨fun pins s σ H Dn I h => ?_⟩
  obtain ⟨B, ρ, γ, S, x0, hq⟩ := h
  rw [exec] at hq
  obtain ⟨xs, g0, hq⟩ := hq.optS
  have g1 := getOl_of g0
  obtain ⟨l, vs, a1, a2, a3, a4, a5, a6⟩ := S.ol i xs g1
  refine (ps_expr (pe_bm PySem.F.plainAttrs_list PySem.F.slot_list_extend PySem.F.type_list_extend mt_extend (ok.name hn) (pa_cons he pa_nil (starEach_cons hs)) rfl (few1 hs) hline (starEach_cons hs) rfl) (sw_plain rfl)).run pins s σ H Dn I ?_
  refine ⟨_, a1, .inl ⟨rfl, vs, .inl (.inl a2)⟩, B, ρ, γ, S, (hq.bind x0).imp fun d g h1 => Done.le (k := .clean) hk fun v B1 H1 x1 g1' r1 => ?_⟩
  have S1 := S.ext x1 g1'
  have b2 := x1.keep _ _ a2 a4
  have b3 := x1.stillNone a3 (by rw [a2]; exact fun z => nomatch z)
  split at h1
  · cases r1 with
    | lst ha ra =>
      split at h1
      · rename_i hz
        refine ⟨l, _, vs, _, rfl, rfl, b2, x1.s _ _ ha, by rw [a6.length, ra.length]; exact hz, ?_⟩
        exact h1 _ _ _ (S1.poke g1 rfl a1 (o := .lst (_ ++ _)) (Reps.append (Reps.mono x1.b _ _ a6) ra)) ((x0.trans x1).poke a5 b3) x1.b
      · exact h1.elim
  · exact h1.elim
theorem c_rem (ok : XOk G X N sc k C) (hcm : calmB sc = true) (tk : Takes X W) {i : Nat} {y : Str} {e : E} {x : Expr} {p ap cp : Pos} (hn : nameB N sc i y = true) (hline : (ap.endLine == cp.line) = true) (hs : notStar x = true) (hk : (kd e).le .clean = true) (he : PE X x (tE C X.mg H0 W e)) :
    PS X (.Expr (.Call (.Attribute (.Name y p) "remove" ap) [x] [] cp) pos) (tS C X.mg B0 H0 W (.rem i e)) := by
  refine ⟨fun pins s σ H Dn I h => ?_⟩
  obtain ⟨B, ρ, γ, S, x0, hq⟩ := h
  rw [exec] at hq
  obtain ⟨xs, g0, hq⟩ := hq.optS
  have g1 := getOl_of g0
  obtain ⟨l, vs, a1, a2, a3, a4, a5, a6⟩ := S.ol i xs g1
  refine (ps_expr (pe_remX (ok.calm hcm) tk (ok.name hn) he rfl (few1 hs) hline (starEach_cons hs) rfl) (sw_plain rfl)).run pins s σ H Dn I ?_
  refine ⟨_, a1, .inl ⟨rfl, vs, .inl (.inl a2)⟩, B, ρ, γ, S, (hq.bind x0).imp fun d g h1 => Done.le (k := .clean) hk fun v B1 H1 x1 g1' r1 => ?_⟩
  have S1 := S.ext x1 g1'
  have b2 := x1.keep _ _ a2 a4
  have b3 := x1.stillNone a3 (by rw [a2]; exact fun z => nomatch z)
  split at h1
  · rename_i k' ns hns
    split at h1
    · rename_i hm
      obtain rfl := Reps.intsD a6 hns
      cases r1 with
      | int =>
        exact ⟨l, ns, k', rfl, rfl, b2, fun _ => h1 _ _ _ (S1.poke g1 rfl a1 (o := .lst ((ns.erase k').map V.int)) (Reps.ofInts _)) ((x0.trans x1).poke a5 b3) x1.b, fun h => absurd hm h⟩
    · exact h1.elim
  · exact h1.elim
theorem c_ins (ok : XOk G X N sc k C) {i : Nat} {y : Str} {a e : E} {xa x : Expr} {p ap cp : Pos} (hn : nameB N sc i y = true) (hline : (ap.endLine == cp.line) = true) (hsa : notStar xa = true) (hs : notStar x = true) (hk : (kd e).le .clean = true) (hka : (kd a).le .clean = true)
    (ha : PE X xa (tE C X.mg H0 W a)) (he : PE X x (tE C X.mg H0 W e)) :
    PS X (.Expr (.Call (.Attribute (.Name y p) "insert" ap) [xa, x] [] cp) pos) (tS C X.mg B0 H0 W (.ins i a e)) := by
  refine ⟨fun pins s σ H Dn I h => ?_⟩
  obtain ⟨B, ρ, γ, S, x0, hq⟩ := h
  rw [exec] at hq
  obtain ⟨xs, g0, hq⟩ := hq.optS
  have g1 := getOl_of g0
  obtain ⟨l, vs, a1, a2, a3, a4, a5, a6⟩ := S.ol i xs g1
  refine (ps_expr (pe_bm PySem.F.plainAttrs_list PySem.F.slot_list_insert PySem.F.type_list_insert mt_insert (ok.name hn) (pa_cons ha (pa_cons he pa_nil (starEach_cons hs)) (starEach_cons hsa)) rfl (few2 hsa hs) hline (starEach_cons hsa) (plain2 hs)) (sw_plain rfl)).run pins s σ H Dn I ?_
  refine ⟨_, a1, .inl ⟨rfl, vs, .inl (.inl a2)⟩, B, ρ, γ, S, (hq.bind x0).imp fun d g h1 => Done.le (k := .clean) hka fun v B1 H1 x1 g1' r1 => ?_⟩
  have S1 := S.ext x1 g1'
  refine ⟨B1, ρ, g, S1, (h1.bind (x0.trans x1)).imp fun d2 g2 h2 => Done.le (k := .clean) hk fun v2 B2 H2 x2 g2' r2 => ?_⟩
  have x12 := x1.trans x2
  have S2 := S1.ext x2 g2'
  have b2 := x12.keep _ _ a2 a4
  have b3 := x12.stillNone a3 (by rw [a2]; exact fun z => nomatch z)
  split at h2
  · cases r1
    split at h2
    · rename_i hz
      obtain ⟨z1, z2, z3⟩ := hz
      have m6 := Reps.mono x12.b _ _ a6
      refine ⟨l, vs, _, v2, rfl, rfl, b2, by rw [a6.length]; exact z1, z2, z3, ?_⟩
      exact h2 _ _ _ (S2.poke g1 rfl a1 (o := .lst (_ ++ _ ++ _)) (Reps.append (Reps.append (Reps.take _ m6) (.cons r2 .nil)) (Reps.drop _ m6))) ((x0.trans x12).poke a5 b3) x12.b
    · exact h2.elim
  · exact h2.elim
/-- xs.append(ys.pop(e)) -/
theorem c_appPop (ok : XOk G X N sc k C) {i j : Nat} {y z : Str} {e : E} {x : Expr} {p ap cp p2 ap2 cp2 : Pos} (hn : nameB N sc i y = true) (hn2 : nameB N sc j z = true) (hline : (ap.endLine == cp.line) = true) (hline2 : (ap2.endLine == cp2.line) = true) (hs : notStar x = true) (hk : (kd e).le .clean = true)
    (he : PE X x (tE C X.mg H0 W e)) :
    PS X (.Expr (.Call (.Attribute (.Name y p) "append" ap) [.Call (.Attribute (.Name z p2) "pop" ap2) [x] [] cp2] [] cp) pos) (tS C X.mg B0 H0 W (.appPop i j e)) := by
  refine ⟨fun pins s σ H Dn I h => ?_⟩
  obtain ⟨B, ρ, γ, S, x0, hq⟩ := h
  rw [exec] at hq
  obtain ⟨xs, g0, hq⟩ := hq.optS
  obtain ⟨ys, g0', hq⟩ := hq.optS
  have g1 := getOl_of g0
  have g2 := getOl_of g0'
  obtain ⟨l, vs, a1, a2, a3, a4, a5, a6⟩ := S.ol i xs g1
  obtain ⟨l', ws, b1, b2, b3, b4, b5, b6⟩ := S.ol j ys g2
  have pin : PE X (.Call (.Attribute (.Name z p2) "pop" ap2) [x] [] cp2) (tBM X.K "list" rPopAt (tVar j) (tCons (tE C X.mg H0 W e) tNil)) :=
    pe_bm PySem.F.plainAttrs_list PySem.F.slot_list_pop PySem.F.type_list_pop mt_popAt (ok.name hn2) (pa_cons he pa_nil (starEach_cons hs)) rfl (few1 hs) hline2 (starEach_cons hs) rfl
  refine (ps_expr (pe_bm PySem.F.plainAttrs_list PySem.F.slot_list_append PySem.F.type_list_append mt_append (ok.name hn) (pa_cons pin pa_nil (starEach_cons rfl)) rfl (few1 rfl) hline (starEach_cons rfl) rfl) (sw_plain rfl)).run pins s σ H Dn I ?_
  refine ⟨_, a1, .inl ⟨rfl, vs, .inl (.inl a2)⟩, _, b1, .inl ⟨rfl, ws, .inl (.inl b2)⟩, B, ρ, γ, S, (hq.bind x0).imp fun d g h1 => Done.le (k := .clean) hk fun v B1 H1 x1 g1' r1 => ?_⟩
  have S1 := S.ext x1 g1'
  have m2 := x1.keep _ _ a2 a4
  have m3 := x1.stillNone a3 (by rw [a2]; exact fun z => nomatch z)
  have n2 := x1.keep _ _ b2 b4
  have n3 := x1.stillNone b3 (by rw [b2]; exact fun z => nomatch z)
  split at h1
  · cases r1
    obtain ⟨k', e1, h1⟩ := h1.optS
    obtain ⟨yd, e2, h1⟩ := h1.optS
    split at h1
    · rename_i hz
      obtain ⟨z1, z2, z3, z4⟩ := hz
      have ra := Reps.mono x1.b _ _ a6
      have rb := Reps.mono x1.b _ _ b6
      obtain ⟨yv, e3, r3⟩ := rb.get e2
      have ne : l ≠ l' := fun e => z1 (S.apart i j _ _ l g1 g2 rfl rfl a1 (by rw [e]; exact b1))
      refine ⟨l', ws, _, k', yv, rfl, rfl, n2, z3, z4, by rw [rb.length]; exact (ixN_seq e1).1, e3, ?_⟩
      have P1 := S1.poke g2 rfl b1 (o := .lst (ws.eraseIdx k')) (s' := .ol (ys.eraseIdx k')) (Reps.eraseIdx _ rb)
      refine ⟨l, vs, yv, rfl, rfl, by rw [upd_ne ne]; exact m2, by rw [a6.length]; exact z2, ?_⟩
      have gi : (ρ.set j (.ol (ys.eraseIdx k')))[i]? = some (.ol xs) := by rw [set_other (Ne.symm z1)]; exact g1
      exact h1 _ _ _ (P1.poke gi rfl a1 (o := .lst (vs ++ [yv])) (Reps.append ra (.cons r3 .nil))) (((x0.trans x1).poke b5 n3).poke a5 m3) x1.b
    · exact h1.elim
  · exact h1.elim
/-- name = ys.pop(e) -/
theorem c_setPop (ok : XOk G X N sc k C) {i j : Nat} {y z : Str} {e : E} {x : Expr} {p p2 ap2 cp2 : Pos} (hi : N[i]? = some y) (hl : locB sc y = true) (hn2 : nameB N sc j z = true) (hline2 : (ap2.endLine == cp2.line) = true) (hs : notStar x = true) (hk : (kd e).le .clean = true)
    (he : PE X x (tE C X.mg H0 W e)) :
    PS X (.Assign [.Name y p] (.Call (.Attribute (.Name z p2) "pop" ap2) [x] [] cp2) pos) (tS C X.mg B0 H0 W (.setPop i j e)) := by
  refine ⟨fun pins s σ H Dn I h => ?_⟩
  obtain ⟨B, ρ, γ, S, x0, hq⟩ := h
  rw [exec] at hq
  obtain ⟨ys, g0', hq⟩ := hq.optS
  have g2 := getOl_of g0'
  obtain ⟨l', ws, b1, b2, b3, b4, b5, b6⟩ := S.ol j ys g2
  have pin : PE X (.Call (.Attribute (.Name z p2) "pop" ap2) [x] [] cp2) (tBM X.K "list" rPopAt (tVar j) (tCons (tE C X.mg H0 W e) tNil)) :=
    pe_bm PySem.F.plainAttrs_list PySem.F.slot_list_pop PySem.F.type_list_pop mt_popAt (ok.name hn2) (pa_cons he pa_nil (starEach_cons hs)) rfl (few1 hs) hline2 (starEach_cons hs) rfl
  refine (ps_set ok.nd (by rw [ok.hN]; exact hi) (ok.loc hl) pin (sw_plain rfl) (ok.locF hl)).run pins s σ H Dn I ?_
  refine ⟨_, b1, .inl ⟨rfl, ws, .inl (.inl b2)⟩, B, ρ, γ, S, (hq.bind x0).imp fun d g h1 => Done.le (k := .clean) hk fun v B1 H1 x1 g1' r1 => ?_⟩
  have S1 := S.ext x1 g1'
  have n2 := x1.keep _ _ b2 b4
  have n3 := x1.stillNone b3 (by rw [b2]; exact fun z => nomatch z)
  split at h1
  · cases r1
    obtain ⟨k', e1, h1⟩ := h1.optS
    obtain ⟨yd, e2, h1⟩ := h1.optS
    split at h1
    · rename_i hz
      obtain ⟨z1, z3, z4⟩ := hz
      have rb := Reps.mono x1.b _ _ b6
      obtain ⟨yv, e3, r3⟩ := rb.get e2
      refine ⟨l', ws, _, k', yv, rfl, rfl, n2, z3, z4, by rw [rb.length]; exact (ixN_seq e1).1, e3, ?_⟩
      have P1 := S1.poke g2 rfl b1 (o := .lst (ws.eraseIdx k')) (s' := .ol (ys.eraseIdx k')) (Reps.eraseIdx _ rb)
      exact h1 _ _ _ (P1.set i r3) ((x0.trans x1).poke b5 n3) x1.b
    · exact h1.elim
  · exact h1.elim
/-- xs[k] = e -/
theorem key_of {y : D} {q : L2.Key} {v : V} {B : Hp} (h : keyOf y = some q) (r : Rep C.K C.hv B v y) : v = kV q := by
  cases y <;> first | (cases h; done) | skip
  · cases h; cases r; rfl
  · cases h; cases r; rfl
theorem c_setI (ok : XOk G X N sc k C) {i : Nat} {y : Str} {a e : E} {xa x : Expr} {p sp : Pos} (hn : nameB N sc i y = true) (hp : plainIx xa = true) (hc : notComp x = true) (hk : (kd e).le .clean = true) (hka : (kd a).le .clean = true)
    (ha : PE X xa (tE C X.mg H0 W a)) (he : PE X x (tE C X.mg H0 W e)) :
    PS X (.Assign [.Subscript (.Name y p) xa sp] x pos) (tS C X.mg B0 H0 W (.setI i a e)) := by
  have hasg : ∀ v, assign (.Subscript (.Name y p) xa sp) X.env v = (do
      let ov ← holding [v] (eval (.Name y p) X.env)
      let iv ← holding [v, ov] (eval xa X.env)
      standAt sp
      holding [v, ov, iv] (setItem ov iv v)
      release [v, ov, iv] []) := by
    intro v
    cases xa <;> first | (cases hp; done) | rfl
  refine ⟨fun pins s σ H Dn I h => ?_⟩
  obtain ⟨B, ρ, γ, S, x0, hq⟩ := h
  rw [exec] at hq
  by_cases hsl : ∃ xs, ρ[i]? = some (.ol xs)
  · obtain ⟨xs, g1⟩ := hsl
    obtain ⟨l, vs, a1, a2, a3, a4, a5, a6⟩ := S.ol i xs g1
    refine (ps_asg he (pg_sub (ok.name hn) ha set_list hasg) (sw_sole hc) rfl rfl).run pins s σ H Dn I ?_
    refine ⟨B, ρ, γ, S, (hq.bind x0).imp fun d g h1 => Done.le (k := .clean) hk fun v B1 H1 x1 g1' r1 => ?_⟩
    obtain ⟨sl, e1, h1⟩ := h1.optS
    obtain ⟨f1, f2⟩ := getO_of e1
    rw [g1] at f1
    cases f1
    have S1 := S.ext x1 g1'
    refine ⟨_, a1, B1, ρ, g, S1, (h1.bind (x0.trans x1)).imp fun d2 g2 h2 => Done.le (k := .clean) hka fun v2 B2 H2 x2 g2' r2 => ?_⟩
    obtain ⟨s1, e2, h2⟩ := h2.optS
    have x12 := x1.trans x2
    have S2 := S1.ext x2 g2'
    have b2 := x12.keep _ _ a2 a4
    have b3 := x12.stillNone a3 (by rw [a2]; exact fun z => nomatch z)
    have m6 := Reps.mono x12.b _ _ a6
    cases d2 <;> first | (cases e2; done) | skip
    rename_i ix
    cases r2
    have e2 : ((ixN xs.length ix).map fun j => Sl.ol (xs.set j d)) = some s1 := e2
    cases e3 : ixN xs.length ix with
    | none => rw [e3] at e2; cases e2
    | some j =>
      rw [e3] at e2
      cases e2
      exact ⟨l, vs, ix, j, rfl, rfl, b2, by rw [a6.length]; exact e3, h2 _ _ _ (S2.poke g1 rfl a1 (o := .lst (vs.set j v)) (Reps.set (Rep.mono x2.b _ _ r1) _ m6)) ((x0.trans x12).poke a5 b3) x12.b⟩
  · by_cases hsd : ∃ ks, ρ[i]? = some (.od ks)
    · obtain ⟨ks, g1⟩ := hsd
      obtain ⟨l, kvs, a1, a2, a3, a4, a5, a6⟩ := S.od i ks g1
      refine (ps_dput (by have := ok.units; omega) (ok.name hn) ha he (sw_plain hc)).run pins s σ H Dn I ?_
      refine ⟨B, ρ, γ, S, (hq.bind x0).imp fun d g h1 => Done.le (k := .clean) hk fun v B1 H1 x1 g1' r1 => ?_⟩
      obtain ⟨sl, e1, h1⟩ := h1.optS
      obtain ⟨f1, f2⟩ := getO_of e1
      rw [g1] at f1
      cases f1
      have S1 := S.ext x1 g1'
      refine ⟨_, a1, B1, ρ, g, S1, (h1.bind (x0.trans x1)).imp fun d2 g2 h2 => Done.le (k := .clean) hka fun v2 B2 H2 x2 g2' r2 => ?_⟩
      obtain ⟨s1, e2, h2⟩ := h2.optS
      have x12 := x1.trans x2
      have S2 := S1.ext x2 g2'
      have b2 := x12.keep _ _ a2 a4
      have b3 := x12.stillNone a3 (by rw [a2]; exact fun z => nomatch z)
      have m6 := RepKv.mono x12.b _ _ a6
      have e2 : (if ks.length < sizeLine then (keyOf d2).map fun q => Sl.od (putD ks q d) else none) = some s1 := e2
      split at e2
      · rename_i hz
        cases e3 : keyOf d2 with
        | none => rw [e3] at e2; cases e2
        | some q =>
          rw [e3] at e2
          cases e2
          obtain rfl := key_of e3 r2
          exact ⟨l, _, rfl, DPut.k b2 (by rw [a6.length]; exact hz), h2 _ _ _ (S2.poke g1 rfl a1 (o := .dK (putK kvs q v)) (RepKv.put (Rep.mono x2.b _ _ r1) m6)) ((x0.trans x12).poke a5 b3) x12.b⟩
      · cases e2
    · have hno : getO ρ i = none := by
        unfold getO
        split
        · rename_i e; exact absurd ⟨_, e⟩ hsl
        · rename_i e; exact absurd ⟨_, e⟩ hsd
        · rfl
      refine (ps_dput (by have := ok.units; omega) (ok.name hn) ha he (sw_plain hc)).run pins s σ H Dn I ?_
      refine ⟨B, ρ, γ, S, (hq.bind x0).imp fun d g h1 => ?_⟩
      rw [hno] at h1
      exact h1.elim
theorem c_aug (ok : XOk G X N sc k C) {i : Nat} {y : Str} {op : Bo} {e : E} {x : Expr} {p : Pos} (hn : N[i]? = some y) (hl : locB sc y = true) (ho : op = .add ∨ op = .sub) (he : PE X x (tE C X.mg H0 W e)) : PS X (.AugAssign (.Name y p) op.op x pos) (tS C X.mg B0 H0 W (.aug i op e)) := by
  refine ⟨fun pins s σ H Dn I h => ?_⟩
  obtain ⟨B, ρ, γ, S, x0, hq⟩ := h
  rw [exec] at hq
  obtain ⟨d0, g0, hq⟩ := hq.optS
  have g1 : ρ[i]? = some (.val d0) := by
    unfold getV at g0
    split at g0
    · rename_i e; cases g0; exact e
    · cases g0
  obtain ⟨v0, a1, a2⟩ := S.val i d0 g1
  rcases ho with rfl | rfl
  · refine (ps_aug ok.nd (by rw [ok.hN]; exact hn) (ok.loc hl) he ip_add (ok.locF hl)).run pins s σ H Dn I ?_
    refine ⟨v0, a1, B, ρ, γ, S, (hq.bind x0).imp fun d g h1 v B1 H1 x1 g1' r1 => ?_⟩
    obtain ⟨z, e1, h1⟩ := h1.optS
    cases d0 <;> first | (cases e1; done) | skip
    cases d <;> first | (cases e1; done) | skip
    cases e1
    obtain rfl := (r1.b S.gh).int
    cases a2
    exact ⟨_, _, rfl, rfl, h1 _ _ _ ((S.ext x1 g1').set i (.int _)) (x0.trans x1) x1.b⟩
  · refine (ps_aug ok.nd (by rw [ok.hN]; exact hn) (ok.loc hl) he ip_sub (ok.locF hl)).run pins s σ H Dn I ?_
    refine ⟨v0, a1, B, ρ, γ, S, (hq.bind x0).imp fun d g h1 v B1 H1 x1 g1' r1 => ?_⟩
    obtain ⟨z, e1, h1⟩ := h1.optS
    cases d0 <;> first | (cases e1; done) | skip
    cases d <;> first | (cases e1; done) | skip
    cases e1
    obtain rfl := (r1.b S.gh).int
    cases a2
    exact ⟨_, _, rfl, rfl, h1 _ _ _ ((S.ext x1 g1').set i (.int _)) (x0.trans x1) x1.b⟩
end
end PyI

set_option maxRecDepth 100000
set_option maxHeartbeats 0
/-! PyI, part S: every statement. -/
namespace PyI
open PySem PySem.Spec PyProof.Rows L2
variable {G : Gho → Prop}

section
variable {X : Cx} {N : List Str} {sc : Scope} {k : Nat} {C : Gho} {W : WX} {B0 H0 : Hp} {pos : Pos}
def notTup : Expr → Bool
  | .Tuple _ _ _ => false
  | _ => true
theorem sw_notTup {ts : List Expr} {x : Expr} {kt : Nat} {pt : Pos} {env : PySem.Env} (h : notTup x = true) : swappedStores [.Tuple ts kt pt] x env = pure none := by
  cases x <;> first | (cases h; done) | rfl
theorem sw_soleT {ts : List Expr} {x : Expr} {kt l : Nat} {pt : Pos} {env : PySem.Env} : swapsWithSole [.Tuple ts kt pt] x l env = pure false := by
  cases x <;> rfl
theorem c_unp (ok : XOk G X N sc k C) {is : List Nat} {e : E} {ts : List Expr} {x : Expr} {kt : Nat} {pt : Pos} (ht : mTg N sc (.tup is) (.Tuple ts kt pt) = true) (hx : notTup x = true) (hk : (kd e).le .clean = true) (he : PE X x (tE C X.mg H0 W e)) :
    PS X (.Assign [.Tuple ts kt pt] x pos) (tS C X.mg B0 H0 W (.unp (.tup is) e)) := by
  refine ⟨fun pins s σ H Dn I h => ?_⟩
  obtain ⟨B, ρ, γ, S, x0, hq⟩ := h
  rw [exec] at hq
  refine (ps_asg he (g_tg ok ht) sw_soleT (sw_notTup hx) rfl).run pins s σ H Dn I ?_
  refine ⟨B, ρ, γ, S, (hq.bind x0).imp fun d g h1 => Done.le (k := .clean) hk fun v B1 H1 x1 g1 r1 => ?_⟩
  obtain ⟨ρ1, e1, h1⟩ := h1.optS
  exact gTg_ok (pr := false) ok.hK e1 (fun h => nomatch h) r1 (S.ext x1 g1) fun σ' S' _ _ => h1 _ _ _ S' (x0.trans x1) x1.b
theorem c_expr {e : E} {x : Expr} (hc : notComp x = true) (he : PE X x (tE C X.mg H0 W e)) : PS X (.Expr x pos) (tS C X.mg B0 H0 W (.expr e)) := by
  refine ⟨fun pins s σ H Dn I h => ?_⟩
  obtain ⟨B, ρ, γ, S, x0, hq⟩ := h
  rw [exec] at hq
  refine (ps_expr he (sw_plain hc)).run pins s σ H Dn I ⟨B, ρ, γ, S, (hq.bind x0).imp fun d g h1 v B1 H1 x1 g1 r1 => ?_⟩
  exact h1 _ _ _ (S.ext x1 g1) (x0.trans x1) x1.b
theorem c_ret {e : E} {x : Expr} (hk : (kd e).le .clean = true) (he : PE X x (tE C X.mg H0 W e)) : PS X (.Return (some x) pos) (tS C X.mg B0 H0 W (.ret e)) := by
  refine ⟨fun pins s σ H Dn I h => ?_⟩
  obtain ⟨B, ρ, γ, S, x0, hq⟩ := h
  rw [exec] at hq
  refine (ps_ret he).run pins s σ H Dn I ⟨B, ρ, γ, S, (hq.bind x0).imp fun d g h1 => Done.le (k := .clean) hk fun v B1 H1 x1 g1 r1 => ?_⟩
  exact h1 v B1 H1 (x0.trans x1) g1 r1
theorem c_retN : PS X (.Return none pos) (tS C X.mg B0 H0 W .retN) := by
  refine ⟨fun pins s σ H Dn I h => ?_⟩
  obtain ⟨B, ρ, γ, S, x0, hq⟩ := h
  rw [exec] at hq
  exact ps_retN.run pins s σ H Dn I (hq .non B H x0 S.gh .non)
theorem c_brk : PS X (.Break pos) (tS C X.mg B0 H0 W .brk) := by
  refine ⟨fun pins s σ H Dn I h => ?_⟩
  obtain ⟨B, ρ, γ, S, x0, hq⟩ := h
  rw [exec] at hq
  exact ps_break.run pins s σ H Dn I (hq _ _ _ S x0 (Same.refl _))
theorem c_cont : PS X (.Continue pos) (tS C X.mg B0 H0 W .cont) := by
  refine ⟨fun pins s σ H Dn I h => ?_⟩
  obtain ⟨B, ρ, γ, S, x0, hq⟩ := h
  rw [exec] at hq
  exact ps_continue.run pins s σ H Dn I (hq _ _ _ S x0 (Same.refl _))
theorem c_never {s : Stmt} : PS X s (tS C X.mg B0 H0 W .never) := by
  refine ⟨fun pins s σ H Dn I h => ?_⟩
  obtain ⟨B, ρ, γ, S, x0, hq⟩ := h
  rw [exec] at hq
  exact hq.elim
theorem c_if {t : E} {a b : List S} {x : Expr} {a' b' : List Stmt} (ht : PT X x (tT C X.mg H0 W t)) (ha : PSs X a' (tSs C X.mg B0 H0 W a)) (hb : PSs X b' (tSs C X.mg B0 H0 W b)) : PS X (.If x a' b' pos) (tS C X.mg B0 H0 W (.ift t a b)) := by
  refine ⟨fun pins s σ H Dn I h => ?_⟩
  obtain ⟨B, ρ, γ, S, x0, hq⟩ := h
  rw [exec] at hq
  refine (ps_if ht ha hb).run pins s σ H Dn I ⟨B, ρ, γ, S, (hq.bind x0).imp fun d g h1 => ?_⟩
  cases d <;> first | exact h1.elim | skip
  rename_i bb
  cases bb with
  | true => exact ⟨true, rfl, fun B1 H1 x1 g1 => by dsimp only; rw [if_pos rfl]; exact ⟨B1, ρ, g, S.ext x1 g1, x0.trans x1, h1.later x1.b⟩⟩
  | false => exact ⟨false, rfl, fun B1 H1 x1 g1 => by dsimp only; rw [if_neg Bool.false_ne_true]; exact ⟨B1, ρ, g, S.ext x1 g1, x0.trans x1, h1.later x1.b⟩⟩
/-! ### loops -/
def More (C : Gho) (mg : Str → Option Value) (B0 H0 Bk : Hp) (W : WX) (f : Rho → D → Rs) (Dn : Ends) : L2.St → Hp → Prop := fun σ H => ∃ B ρ g, St C H0 B σ H ρ g ∧ Ext C.U B0 H0 B H ∧ Same Bk B ∧ FinS C mg B0 H0 B W (f ρ g) Dn
theorem loop_turn {step : D → Rho → D → Rs} {d : D} {rest : List D} {ρ : Rho} {g : D} {Dn : Ends} {Bk : Hp} {mg : Str → Option Value} (h : FinS C mg B0 H0 Bk W (loopL step (d :: rest) ρ g) Dn) :
    FinS C mg B0 H0 Bk W (step d ρ g) { Dn with nx := More C mg B0 H0 Bk W (loopL step rest) Dn, ct := More C mg B0 H0 Bk W (loopL step rest) Dn, bk := Dn.nx } := by
  unfold loopL at h
  cases e : step d ρ g with
  | nx ρ1 g1 => rw [e] at h; exact fun B σ H S x m => ⟨B, ρ1, g1, S, x, m, FinS.later h m⟩
  | ct ρ1 g1 => rw [e] at h; exact fun B σ H S x m => ⟨B, ρ1, g1, S, x, m, FinS.later h m⟩
  | bk ρ1 g1 => rw [e] at h; exact h
  | rt d g => rw [e] at h; exact h
  | ex c fs g => rw [e] at h; exact h
  | no => rw [e] at h; exact h.elim
theorem FinS.mono {r : Rs} {Dn Dn' : Ends} {Bk : Hp} {mg : Str → Option Value} (h : FinS C mg B0 H0 Bk W r Dn) (h1 : ∀ σ H, Dn.nx σ H → Dn'.nx σ H) (h2 : ∀ σ H, Dn.bk σ H → Dn'.bk σ H) (h3 : ∀ σ H, Dn.ct σ H → Dn'.ct σ H) (h4 : ∀ v H, Dn.rt v H → Dn'.rt v H) : FinS C mg B0 H0 Bk W r Dn' := by
  cases r with
  | nx ρ g => exact fun B σ H S x q => h1 _ _ (h B σ H S x q)
  | bk ρ g => exact fun B σ H S x q => h2 _ _ (h B σ H S x q)
  | ct ρ g => exact fun B σ H S x q => h3 _ _ (h B σ H S x q)
  | rt d g => exact fun v B H x g r => h4 _ _ (h v B H x g r)
  | ex c fs g => exact h
  | no => exact h
theorem c_loop (ok : XOk G X N sc k C) (hcm : calmB sc = true) {tg : Tg} {it : I} (hpr : (!plainI it) = true → ∃ is, tg = .tup is) (hps : PassesOwn (model X.prog X.w) X.A X.env X.xe) {b : List S} {tg' it' : Expr} {b' : List Stmt} (ht : mTg N sc tg tg' = true) (hs : notSet it' = true) (hk : noB (kI it) = true)
    (hi : PI X tg' it' (tI C X.mg H0 W it)) (hb : PSs X b' (tSs C X.mg B0 H0 W b)) : PS X (.For tg' it' b' [] pos) (tS C X.mg B0 H0 W (.loop tg it b)) := by
  refine ⟨fun pins s σ H Dn I h => ?_⟩
  obtain ⟨B, ρ, γ, S, x0, hq⟩ := h
  rw [exec] at hq
  refine (ps_for hps (ok.calm hcm) hi (g_tg ok ht) hb (lc_fold hs)).run pins s σ H Dn I ⟨B, ρ, γ, S, (hq.bind x0).imp fun xs g h1 J B1 H1 src x1 g1 ksrc _ drv => ?_⟩
  obtain rfl : src = [] := by
    cases e : kI it with
    | fresh => rw [e] at ksrc; exact ksrc
    | clean => rw [e] at ksrc; exact ksrc
    | borrow => rw [e] at hk; cases hk
  generalize hst : (fun (x : D) (ρ1 : Rho) (g2 : D) => optS (bindT tg x ρ1) fun ρ2 => execs b ρ2 g2) = step at h1
  refine ⟨fun i m σ H => m = xs.length - i ∧ i ≤ xs.length ∧ More C X.mg B0 H0 B1 W (loopL step (xs.drop i)) Dn σ H, ⟨xs.length, rfl, Nat.zero_le _, B1, ρ, g, S.ext x1 g1, x0.trans x1, Same.refl _, h1.later x1.b⟩, ?_⟩
  rintro i m σ1 Hc ⟨rfl, hi, Bc, ρc, gc, Sc, xc, mc, hc⟩
  by_cases hlt : i < xs.length
  · refine .inr ⟨drv.go i Bc Hc mc Sc.sub (fun _ z => nomatch z) hlt, More C X.mg B0 H0 B1 W (loopL step (xs.drop (i + 1))) Dn, fun σ' H' p => ⟨xs.length - (i + 1), by omega, rfl, hlt, p⟩, fun x H' hy => ?_⟩
    obtain ⟨B', d, hd, xy, stay, rd⟩ := drv.yld i Bc Hc x H' mc Sc.sub (fun _ z => nomatch z) hlt hy
    have hdr : xs.drop i = d :: xs.drop (i + 1) := by
      rw [List.drop_eq_getElem_cons hlt]
      rw [List.getElem?_eq_getElem hlt] at hd
      cases hd; rfl
    rw [hdr] at hc
    have ht1 := loop_turn hc
    rw [← hst] at ht1
    obtain ⟨ρ2, e2, ht2⟩ := ht1.optS
    rw [hst] at ht2
    have gy : C.rep gc H' := C.stay _ _ _ Sc.gh fun a hu => stay a (C.has _ _ _ Sc.gh hu)
    have S2 : St C H0 B' σ1 H' ρc gc := Sc.ext xy gy
    refine gTg_ok ok.hK e2 hpr rd S2 fun σ2 S3 _ _ => ?_
    have m2 : Same B1 B' := mc.trans xy.b
    refine ⟨B', ρ2, gc, S3, xc.trans xy, (ht2.later xy.b).mono ?_ ?_ ?_ ?_⟩
    · rintro σ H ⟨B, ρ, g, q1, q2, q3, q4⟩; exact ⟨B, ρ, g, q1, q2, mc.trans q3, q4⟩
    · exact fun _ _ z => z
    · rintro σ H ⟨B, ρ, g, q1, q2, q3, q4⟩; exact ⟨B, ρ, g, q1, q2, mc.trans q3, q4⟩
    · exact fun _ _ z => z
  · obtain rfl : i = xs.length := Nat.le_antisymm hi (Nat.le_of_not_lt hlt)
    rw [List.drop_length, loopL] at hc
    exact .inl ⟨drv.stop Bc Hc mc Sc.sub (fun _ z => nomatch z), hc _ _ _ Sc xc (Same.refl _)⟩
theorem c_while (ok : XOk G X N sc k C) (hps : PassesOwn (model X.prog X.w) X.A X.env X.xe) {n : Nat} {t : E} {b : List S} {x : Expr} {b' : List Stmt} (ht : PT X x (tT C X.mg H0 W t)) (hb : PSs X b' (tSs C X.mg B0 H0 W b)) : PS X (.While x b' [] pos) (tS C X.mg B0 H0 W (.whil n t b)) := by
  refine ⟨fun pins s σ H Dn I h => ?_⟩
  obtain ⟨B, ρ, γ, S, x0, hq⟩ := h
  rw [exec] at hq
  refine (ps_while hps ht hb).run pins s σ H Dn I ?_
  refine ⟨fun m => More C X.mg B0 H0 B W (whilL (ev t) (execs b) m) Dn, ⟨n, B, ρ, γ, S, x0, Same.refl _, hq⟩, ?_⟩
  rintro m σ1 Hc ⟨Bc, ρc, gc, Sc, xc, mc, hc⟩
  cases m with
  | zero => unfold whilL at hc; exact hc.elim
  | succ m =>
    unfold whilL at hc
    refine ⟨Bc, ρc, gc, Sc, ?_⟩
    cases e : ev t ρc gc with
    | no => rw [e] at hc; exact hc.elim
    | exc c fs g => rw [e] at hc; exact fun cls od B' H' y g' q => hc cls od _ B' H' (xc.trans y) g' q
    | ok d g1 =>
      rw [e] at hc
      cases d <;> first | exact hc.elim | skip
      rename_i bb
      cases bb with
      | false =>
        refine ⟨false, rfl, fun B1 H1 x1 g1' => ?_⟩
        dsimp only; rw [if_neg Bool.false_ne_true]
        exact hc _ _ _ (Sc.ext x1 g1') (xc.trans x1) x1.b
      | true =>
        refine ⟨true, rfl, fun B1 H1 x1 g1' => ?_⟩
        dsimp only; rw [if_pos rfl]
        refine ⟨More C X.mg B0 H0 B W (whilL (ev t) (execs b) m) Dn, fun σ' H' p => ⟨m, Nat.lt_succ_self _, p⟩, B1, ρc, g1, Sc.ext x1 g1', xc.trans x1, ?_⟩
        have m1 : Same B B1 := mc.trans x1.b
        cases e2 : execs b ρc g1 with
        | nx ρ1 g2 => simp only [e2] at hc; exact fun B2 σ2 H2 S2 x2 m2 => ⟨B2, ρ1, g2, S2, x2, m1.trans m2, FinS.later hc (x1.b.trans m2)⟩
        | ct ρ1 g2 => simp only [e2] at hc; exact fun B2 σ2 H2 S2 x2 m2 => ⟨B2, ρ1, g2, S2, x2, m1.trans m2, FinS.later hc (x1.b.trans m2)⟩
        | bk ρ1 g2 => simp only [e2] at hc; exact fun B2 σ2 H2 S2 x2 m2 => hc B2 σ2 H2 S2 x2 (x1.b.trans m2)
        | rt d g => simp only [e2] at hc; exact hc
        | ex c fs g => simp only [e2] at hc; exact hc
        | no => simp only [e2] at hc; exact hc.elim
end

/-! ### the look -/
def raiOk (c : Str) (es : List E) : Bool := match fldC c, es with
  | none, [] => true
  | some _, [_] => true
  | _, _ => false
def cellS (sc : Scope) (x : Str) : Bool := decide (sc.names.lookup x = some .cell)
mutual
def mS (N : List Str) (sc : Scope) : S → Stmt → Bool
  | .set i e, x => match x with
    | .Assign [.Name y p] e' _ => decide (N[i]? = some y) && locB sc y && noB (kd e) && mE N sc e e' && (match e, e' with
      | .lc _ _ _ _, .ListComp _ [⟨_, _, _, 0⟩] scope p2 => (locS sc y && (p.line == p2.line) && lcOwnB y scope) || cellS sc y
      | _, _ => notComp e')
    | _ => false
  | .setO i e, x => match x with
    | .Assign [.Name y p] e' _ => decide (N[i]? = some y) && locB sc y && decide (kd e = .fresh) && mE N sc e e' && (match e, e' with
      | .lc _ _ _ _, .ListComp _ [⟨_, _, _, 0⟩] scope p2 => (locS sc y && (p.line == p2.line) && lcOwnB y scope) || cellS sc y
      | _, _ => notComp e')
    | _ => false
  | .par is es, x => match x with
    | .Assign [.Tuple ts _ _] (.Tuple vs _ _) _ => calmB sc && tgNames N sc (is.map (·.1)) ts && mEs N sc es vs && modeOk is es && decide ((is.map (·.1)).Nodup) && parWay sc ts vs
    | _ => false
  | .unp tg e, x => match tg, x with
    | .tup is, .Assign [.Tuple ts kt pt] e' _ => mTg N sc (.tup is) (.Tuple ts kt pt) && notTup e' && noB (kd e) && mE N sc e e'
    | _, _ => false
  | .frz _, _ => false
  | .app i e, x => match x with
    | .Expr (.Call (.Attribute (.Name y _) m ap) [e'] [] cp) _ => decide (m = ("append" : Str)) && nameB N sc i y && (ap.endLine == cp.line) && notStar e' && noB (kd e) && mE N sc e e'
    | _ => false
  | .ext i e, x => match x with
    | .Expr (.Call (.Attribute (.Name y _) m ap) [e'] [] cp) _ => decide (m = ("extend" : Str)) && nameB N sc i y && (ap.endLine == cp.line) && notStar e' && noB (kd e) && mE N sc e e'
    | _ => false
  | .rem i e, x => match x with
    | .Expr (.Call (.Attribute (.Name y _) m ap) [e'] [] cp) _ => calmB sc && decide (m = ("remove" : Str)) && nameB N sc i y && (ap.endLine == cp.line) && notStar e' && noB (kd e) && mE N sc e e'
    | _ => false
  | .qcut _ _, _ => false
  | .qflat _ _ _, _ => false
  | .setI i a e, x => match x with
    | .Assign [.Subscript (.Name y _) a' _] e' _ => nameB N sc i y && plainIx a' && notComp e' && noB (kd e) && noB (kd a) && mE N sc a a' && mE N sc e e'
    | _ => false
  | .aug i op e, x => match x with
    | .AugAssign (.Name y _) op' e' _ => decide (N[i]? = some y) && locB sc y && decide (op.op = op') && (decide (op = .add) || decide (op = .sub)) && mE N sc e e'
    | _ => false
  | .appPop i j e, x => match x with
    | .Expr (.Call (.Attribute (.Name y _) m ap) [.Call (.Attribute (.Name z _) m2 ap2) [e'] [] cp2] [] cp) _ => decide (m = ("append" : Str)) && decide (m2 = ("pop" : Str)) && nameB N sc i y && nameB N sc j z && (ap.endLine == cp.line) && (ap2.endLine == cp2.line) && notStar e' && noB (kd e) && mE N sc e e'
    | _ => false
  | .setPop i j e, x => match x with
    | .Assign [.Name y _] (.Call (.Attribute (.Name z _) m2 ap2) [e'] [] cp2) _ => decide (m2 = ("pop" : Str)) && decide (N[i]? = some y) && locB sc y && nameB N sc j z && (ap2.endLine == cp2.line) && notStar e' && noB (kd e) && mE N sc e e'
    | _ => false
  | .ins i a e, x => match x with
    | .Expr (.Call (.Attribute (.Name y _) m ap) [a', e'] [] cp) _ => decide (m = ("insert" : Str)) && nameB N sc i y && (ap.endLine == cp.line) && notStar a' && notStar e' && noB (kd e) && noB (kd a) && mE N sc a a' && mE N sc e e'
    | _ => false
  | .expr e, x => match x with
    | .Expr e' _ => notComp e' && mE N sc e e'
    | _ => false
  | .ret e, x => match x with
    | .Return (some e') _ => noB (kd e) && mE N sc e e'
    | _ => false
  | .retN, x => match x with
    | .Return none _ => true
    | _ => false
  | .ift t a b, x => match x with
    | .If t' a' b' _ => mE N sc t t' && mSs N sc a a' && mSs N sc b b'
    | _ => false
  | .loop tg it b, x => match x with
    | .For tg' it' b' [] _ => calmB sc && mTg N sc tg tg' && notSet it' && noB (kI it) && (isTup tg' || plainI it) && mI N sc it it' && mSs N sc b b'
    | _ => false
  | .whil _ t b, x => match x with
    | .While t' b' [] _ => mE N sc t t' && mSs N sc b b'
    | _ => false
  | .never, _ => true
  | .brk, x => match x with
    | .Break _ => true
    | _ => false
  | .cont, x => match x with
    | .Continue _ => true
    | _ => false
  | .rai c es, x => match x with
    | .Raise (some (.Call (.Name y _) xs [] _)) none _ => calmB sc && decide (c = y) && glB sc y && mEs N sc es xs && noB (kds es) && raiOk c es
    | _ => false
  | .tri _ k i e hs, x => match x with
    | .Try [b] [.ExceptHandler (some (.Name y _)) (some n) (b₀ :: su) _] [] [] _ => calmB sc && decide (y = ("PassError" : Str)) && glB sc y && decide (N[i]? = some n) && locS sc n && mSs N (suS sc) hs (b₀ :: su) && noB (kd e) && (match k, b with
      | .set j, .Assign [.Name z p] e' _ => decide (N[j]? = some z) && locB sc z && mE N sc e e' && notComp e'
      | .expr, .Expr e' _ => notComp e' && mE N sc e e'
      | .ret, .Return (some e') _ => mE N sc e e'
      | _, _ => false)
    | _ => false
def mSs (N : List Str) (sc : Scope) : List S → List Stmt → Bool
  | [], x => match x with
    | [] => true
    | _ => false
  | s :: r, x => match s, x with
    | .frz _, xs => mSs N sc r xs
    | s, y :: ys => mS N sc s y && mSs N sc r ys
    | _, _ => false
end
mutual
def allS (p : Str → Sem → Prop) (q : Str → D → Prop) : S → Prop
  | .set _ e | .setO _ e | .unp _ e | .app _ e | .ext _ e | .rem _ e | .aug _ _ e | .appPop _ _ e | .setPop _ _ e | .expr e | .ret e => allE p q e
  | .setI _ a e | .ins _ a e => allE p q a ∧ allE p q e
  | .par _ es => allEs p q es
  | .frz _ | .retN | .never | .brk | .cont | .qcut _ _ | .qflat _ _ _ => True
  | .rai c es => allEs p q es ∧ p ".!" (tagR c)
  | .tri L _ _ e hs => allE p q e ∧ p ".?" (tagS L) ∧ ∀ p' : Str → Sem → Prop, allSs p' q hs
  | .ift t a b => allE p q t ∧ allSs p q a ∧ allSs p q b
  | .loop _ it b => allI p q it ∧ allSs p q b
  | .whil _ t b => allE p q t ∧ allSs p q b
def allSs (p : Str → Sem → Prop) (q : Str → D → Prop) : List S → Prop
  | [] => True
  | s :: r => allS p q s ∧ allSs p q r
end
end PyI

set_option maxRecDepth 100000
/-! PyI, part XS: raise, try. -/
namespace PyI
open PySem PySem.Spec PyProof.Rows L2
variable {G : Gho → Prop}
structure SOk (X : Cx) : Prop where
  ps : PassesOwn (model X.prog X.w) X.A X.env X.xe
  stk : X.stack = X.env :: X.outer
  frm : X.env.frame = some X.env.locals
section
variable {X : Cx} {N : List Str} {sc : Scope} {k : Nat} {C : Gho} {W : WX} {B0 H0 : Hp} {pos : Pos}
/-- X() -/
theorem pmk_own0 {x : Str} {D : Addr} {B newId initId : String} {bmB : List Value} {p pos : Pos} (F : ExcBaseFacts B newId initId bmB) (q : PySem.W.excIn X.K D bmB newId = true) (gC : X.mg x = some (.ref D)) (kC : PySem.W.keepIn X.K (.ref D) = true) (r : Raises X (.ref D)) (hg : Gl X x)
    (hdb : (x == ("__debug__" : Str)) = false) : PMk X (.Call (.Name x p) [] [] pos) (fun _ H Q => Q (.ref D) none H) := by
  intro pins s σ H Q I h
  refine wpAny_Call_Name_kw (ld_glob I hg gC ?_ hdb)
  refine PySem.W.callWith_K0 I.kIn kC ?_
  show wpAny _ _ (call (.ref D) []) _ _ _
  obtain ⟨hp, g, dr, tk, os⟩ := s
  obtain ⟨bm, N, nm, qn, bs, hdct, sn, sub, ab, col, dd, k0, k1, k2, k3, k5, mN, hC, hN, hni, T⟩ := exc_obj I.kIn q
  refine wpAny_call_exc_subT F T hC hN hni (fun h' e hm => ?_) (by show 0 ≤ sizeLine; omega)
  exact mk_of I hm r h (I.hok.gone hm.new)
theorem c_rai (ok : XOk G X N sc k C) (hcm : calmB sc = true) (tk : Takes X W) {c : Str} {es : List E} {xs : List Expr} {p p2 : Pos} (hg : glB sc c = true) (hm : mEs N sc es xs = true) (hes : raiOk c es = true) (ha : PA X xs (tAc C X.mg H0 W es))
    (kn : Knows G X.prog X.w X.K X.mg X.base k ".!" (tagR c)) : PS X (.Raise (some (.Call (.Name c p) xs [] p2)) none pos) (tS C X.mg B0 H0 W (.rai c es)) := by
  have F : MkFacts X.K X.mg c := by
    rcases kn with ⟨h, _⟩ | ⟨h, _⟩ | ⟨h, _⟩ | ⟨h, _⟩ | ⟨_, c', h, F⟩
    · exact absurd h (by decide +kernel)
    · exact absurd h (by decide +kernel)
    · exact absurd h (by decide +kernel)
    · exact absurd h (by decide +kernel)
    · have := congrFun (congrFun h []) .non
      simp only [tagR] at this
      injection this with e1 e2
      injection e1 with e1
      rw [e1]; exact F
  obtain ⟨g1, g2, _⟩ := ok.gl hg
  refine ⟨fun pins s σ H Dn I h => ?_⟩
  obtain ⟨B, ρ, γ, S, x0, hq⟩ := h
  rw [exec] at hq
  unfold MkFacts at F
  unfold raiOk at hes
  cases hf : fldC c with
  | none =>
    rw [hf] at F hq hes
    obtain ⟨D, bmB, f1, f2, rfl, f4, f5, f6⟩ := F
    cases es with
    | cons e es => cases hes
    | nil =>
      obtain rfl : xs = [] := by
        cases xs with
        | nil => rfl
        | cons x xs => simp [mEs] at hm
      rw [evs] at hq
      have fin : FinS C X.mg B0 H0 B W (.ex c [] γ) Dn := hq
      refine (ps_raise (ok.calm hcm) tk (pmk_own0 PySem.F.excBase_ValueError f2 f1 f4 (raises_own f5 f6) g1 g2)).run pins s σ H Dn I ?_
      exact fin (.ref D) none σ B H x0 S.gh ⟨D, f1, rfl, trivial⟩
  | some fl =>
    rw [hf] at F hq hes
    obtain ⟨D, fI, qn, T⟩ := F
    cases es with
    | nil => cases hes
    | cons e es =>
      cases es with
      | cons _ _ => cases hes
      | nil =>
        cases xs with
        | nil => simp [mEs] at hm
        | cons a xs =>
          cases xs with
          | cons _ _ => simp [mEs] at hm
          | nil =>
            have hs : notStar a = true := by
              simp only [mEs, Bool.and_eq_true] at hm
              exact hm.1.2
            refine (ps_raise (ok.calm hcm) tk (pmk_err T (ok.room hcm) ha g1 (starEach_cons hs) rfl)).run pins s σ H Dn I ?_
            refine ⟨B, ρ, γ, S, (hq.bind x0).imp fun ds g h1 vs B1 H1 x1 g1' r1 => ?_⟩
            obtain ⟨fs, e1, h1⟩ := h1.optS
            match ds, e1, r1 with
            | [d], e1, .cons (v := v) rv .nil =>
              cases e1
              refine ⟨v, rfl, fun dx hd => ?_⟩
              have x2 : Ext C.U B1 H1 B1 (upd H1 dx (.xd [(fl, v)])) := Ext.alloc x1.s hd
              refine h1 (.ref D) (some dx) σ B1 _ ((x0.trans x1).trans x2) (C.stayE g1' hd) ⟨D, T.gC, rfl, v, upd_same, x1.s.free hd, fun u => C.has _ _ _ g1' u hd, rv⟩

/-! ### try -/
theorem XOk.tr (ok : XOk G X N sc k C) (hcm : calmB sc = true) (pn : List (Addr × Obj)) (xe : Value → Shared → Prop) : XOk G (X.tr pn xe) N sc k C where
  hN := ok.hN
  nd := ok.nd
  sc := ok.sc
  calm := ok.calm
  nr := ok.nr
  er := fun L c a od h => (ok.nr hcm L c a od h).elim
  gd := ok.gd
  room := ok.room
  unt := ok.unt
  hK := ok.hK
  hG := ok.hG
  hn := ok.hn
  bt := ok.bt
  fn := ok.fn
/-- .. where an error is held -/
abbrev Gho.held (C : Gho) (L : List Str) (c : Str) (a : Addr) (od : Option Addr) : Gho := { C with er := fun L' c' a' od' => L' = L ∧ c' = c ∧ a' = a ∧ od' = od }
theorem XOk.suite (ok : XOk G X N sc k C) {a D : Addr} {oe : Obj} {od : Option Addr} {pn : List (Addr × Obj)} {L : List Str} {c : Str} (hz : Zc (.ref D) od oe) (hf : ∃ vs, oe.data = .fields vs) (T : TryOk X.K X.mg L c D) : XOk (fun _ => True) (X.suite a ((a, oe) :: pn)) N (suS sc) k (C.held L c a od) where
  hN := ok.hN
  nd := ok.nd
  sc := ok.sc
  calm := fun h => nomatch h
  nr := fun h => nomatch h
  er := fun L' c' a' od' h => by
    obtain ⟨rfl, rfl, rfl, rfl⟩ := h
    exact ⟨oe, D, List.mem_cons_self, hz, hf, T⟩
  gd := ok.gd
  room := fun h => nomatch h
  unt := ok.unt
  hK := ok.hK
  hG := trivial
  hn := ok.hn
  bt := ok.bt
  fn := ok.fn
theorem St.hold {B H : Hp} {σ : L2.St} {ρ : Rho} {γ : D} {L : List Str} {c : Str} {a : Addr} {od : Option Addr} {fs : List (Str × D)} (S : St C H0 B σ H ρ γ) (nr : ∀ L c a od, ¬ C.er L c a od) (i : Nat) (hf : ErF C B H fs od) : St (C.held L c a od) H0 B (σ.set i (some (.ref a))) H (ρ.set i (.er L c fs)) γ where
  sub := S.sub
  uB := S.uB
  gh := S.gh
  len := by rw [List.length_set, List.length_set, S.len]
  val := fun j e h => by
    rcases get_set h with ⟨rfl, h1, h2⟩ | ⟨h1, h2⟩
    · cases h2
    · rw [set_other h1]; exact S.val j e h2
  ol := fun j e h => by
    rcases get_set h with ⟨rfl, h1, h2⟩ | ⟨h1, h2⟩
    · cases h2
    · rw [set_other h1]; exact S.ol j e h2
  od := fun j e h => by
    rcases get_set h with ⟨rfl, h1, h2⟩ | ⟨h1, h2⟩
    · cases h2
    · rw [set_other h1]; exact S.od j e h2
  er := fun j L' c' fs' h => by
    rcases get_set h with ⟨rfl, h1, h2⟩ | ⟨h1, h2⟩
    · cases h2
      exact ⟨a, od, by rw [List.getElem?_set_self (by rw [S.len]; exact h1)], ⟨rfl, rfl, rfl, rfl⟩, hf⟩
    · obtain ⟨_, _, _, h3, _⟩ := S.er j _ _ _ h2
      exact (nr _ _ _ _ h3).elim
  apart := fun a b s t l h1 h2 h3 h4 h5 h6 => by
    rcases get_set h1 with ⟨rfl, _, q⟩ | ⟨n1, q1⟩
    · subst q; cases h3
    · rcases get_set h2 with ⟨rfl, _, q⟩ | ⟨n2, q2⟩
      · subst q; cases h4
      · rw [set_other n1] at h5
        rw [set_other n2] at h6
        exact S.apart a b s t l q1 q2 h3 h4 h5 h6
theorem St.drop {B H : Hp} {σ : L2.St} {ρ : Rho} {γ : D} {L : List Str} {c : Str} {a : Addr} {od : Option Addr} (S : St (C.held L c a od) H0 B σ H ρ γ) (i : Nat) (hn : noEr (ρ.set i .un) = true) : St C H0 B (σ.set i none) H (ρ.set i .un) γ := by
  have S1 := S.un i none
  exact { sub := S1.sub, uB := S1.uB, gh := S1.gh, len := S1.len, val := S1.val, ol := S1.ol, od := S1.od, apart := S1.apart,
          er := fun j L' c' fs' h => by
            unfold noEr at hn
            rw [List.all_eq_true] at hn
            have := hn _ (List.mem_of_getElem? h)
            cases this }
def tbT (C : Gho) (mg : Str → Option Value) (H0 : Hp) (e : E) (kk : Tk) (W : WX) : TS := fun Dn σ H => tE C mg H0 W e σ H (match kk with
  | .set j => fun v H1 => Dn.nx (σ.set j (some v)) H1
  | .expr => fun _ H1 => Dn.nx σ H1
  | .ret => Dn.rt)
theorem c_tri (ok : XOk G X N sc k C) (hcm : calmB sc = true) (tk : Takes X W) (hp : SOk X) {L : List Str} {kk : Tk} {i : Nat} {e : E} {hs : List S} {n : Str} {b b₀ : Stmt} {su : List Stmt} {p1 p2 : Pos} (hg : glB sc "PassError" = true) (hi : N[i]? = some n) (hn : locS sc n = true)
    (kn : Knows G X.prog X.w X.K X.mg X.base k ".?" (tagS L)) (hk : (kd e).le .clean = true) (hb : ∀ (W' : WX) (pn : List (Addr × Obj)) (xe : Value → Shared → Prop), Takes (X.tr pn xe) W' → PS (X.tr pn xe) b (tbT C X.mg H0 e kk W'))
    (hsu : ∀ {X' : Cx} {C' : Gho} {W' : WX} {B0' H0' : Hp}, XOk (fun _ => True) X' N (suS sc) k C' → Takes X' W' → SOk X' → Names X'.K X'.mg C' = Names X.K X.mg C → PSs X' (b₀ :: su) (tSs C' X'.mg B0' H0' W' hs)) :
    PS X (.Try [b] [.ExceptHandler (some (.Name "PassError" p1)) (some n) (b₀ :: su) p2] [] [] pos) (tS C X.mg B0 H0 W (.tri L kk i e hs)) := by
  have F : TryFacts X.K X.mg L := by
    rcases kn with ⟨h, _⟩ | ⟨h, _⟩ | ⟨h, _⟩ | ⟨_, L', h, F⟩ | ⟨h, _⟩
    · exact absurd h (by decide +kernel)
    · exact absurd h (by decide +kernel)
    · exact absurd h (by decide +kernel)
    · have := congrFun (congrFun h []) .non
      simp only [tagS] at this
      injection this with e1 e2
      injection e1 with e1
      have : L = L' := (List.map_inj_right fun a b h => by injection h).mp e1
      rw [this]; exact F
    · exact absurd h (by decide +kernel)
  obtain ⟨g1, g2, g3⟩ := ok.gl hg
  obtain ⟨P, hP, FL⟩ := F
  have hnl : X.env.kindOf n = some .local := ok.locL hn
  let ts : Addr → Value → Option Addr → TS := fun a cls od Dn σ H => ∃ c D, cls = .ref D ∧ TryOk X.K X.mg L c D ∧ tSs (C.held L c a od) X.mg B0 H0 W0 hs Dn σ H
  refine ⟨fun pins s σ H Dn I h => ?_⟩
  refine (ps_try_as (X := X) (i := i) (c := .ref P) (tb := fun W' => tbT C X.mg H0 e kk W') (ts := ts) (Wout := W) hp.stk hp.frm ok.nd (by rw [ok.hN]; exact hi) hnl ⟨g1, g2, .inl hP⟩ tk (fun W' pn xe tk' _ => pss_one (hb W' pn xe tk')) ?_).run pins s σ H Dn I ?_
  · intro a oe cls d pn hz hf
    refine ⟨fun pins s σ H Dn I h => ?_⟩
    obtain ⟨c, D, rfl, T, h⟩ := h
    exact (hsu (X' := X.suite a ((a, oe) :: pn)) (ok.suite hz hf T) takes0 ⟨PassesOwn.never, hp.stk, hp.frm⟩ rfl).run pins s σ H Dn I h
  · obtain ⟨B, ρ, γ, S, x0, hq⟩ := h
    rw [exec] at hq
    refine ⟨B, ρ, γ, S, ?_⟩
    cases e1 : ev e ρ γ with
    | no => rw [e1] at hq; exact hq.elim
    | ok d g =>
      rw [e1] at hq
      refine Done.le (k := .clean) hk fun v B1 H1 x1 g1 r1 => ?_
      cases kk with
      | set j => exact hq B1 _ H1 ((S.ext x1 g1).set j r1) (x0.trans x1) x1.b
      | expr => exact hq B1 _ H1 (S.ext x1 g1) (x0.trans x1) x1.b
      | ret => exact hq v B1 H1 (x0.trans x1) g1 r1
    | exc c fs g =>
      rw [e1] at hq
      dsimp only at hq
      split at hq
      rotate_left
      · exact hq.elim
      rename_i hc
      intro cls od B1 H1 x1 rg he
      obtain ⟨D, T, hx⟩ := FL c hc
      obtain ⟨a0, h1, rfl, h3⟩ := he
      rw [T.1] at h1
      cases h1
      refine ⟨true, hx, fun _ a ha => ?_, fun z => nomatch z⟩
      refine ⟨c, D, rfl, T, B1, ρ.set i (.er L c fs), g, (S.ext x1 rg).hold (ok.nr hcm) i h3, x0.trans x1, ?_⟩
      cases e2 : execs hs (ρ.set i (.er L c fs)) g with
      | nx ρ2 g2 =>
        rw [e2, clrS] at hq
        split at hq
        · rename_i hno
          exact fun B2 σ2 H2 S2 x2 m2 => hq B2 _ H2 (S2.drop i hno) x2 (x1.b.trans m2)
        · exact hq.elim
      | bk ρ2 g2 =>
        rw [e2, clrS] at hq
        split at hq
        · rename_i hno
          exact fun B2 σ2 H2 S2 x2 m2 => hq B2 _ H2 (S2.drop i hno) x2 (x1.b.trans m2)
        · exact hq.elim
      | ct ρ2 g2 =>
        rw [e2, clrS] at hq
        split at hq
        · rename_i hno
          exact fun B2 σ2 H2 S2 x2 m2 => hq B2 _ H2 (S2.drop i hno) x2 (x1.b.trans m2)
        · exact hq.elim
      | rt d g2 => rw [e2, clrS] at hq; exact hq
      | ex c2 fs2 g2 => rw [e2] at hq; exact hq.elim
      | no => rw [e2] at hq; exact hq.elim
end
end PyI

set_option maxRecDepth 100000
set_option maxHeartbeats 0
/-! PyI, part T: every statement is sound. -/
namespace PyI
open PySem PySem.Spec PyProof.Rows L2
variable {G : Gho → Prop}

theorem c_frz {X : Cx} {C : Gho} {W : WX} {B0 H0 : Hp} {i : Nat} {r : List S} {xs : List Stmt} (h : PSs X xs (tSs C X.mg B0 H0 W r)) : PSs X xs (tSs C X.mg B0 H0 W (.frz i :: r)) := by
  refine ⟨fun pins s σ H Dn I hq => h.run pins s σ H Dn I ?_⟩
  obtain ⟨B, ρ, γ, S, x0, hq⟩ := hq
  rw [execs, exec] at hq
  cases e : getB ρ i with
  | none => rw [e] at hq; exact hq.elim
  | some d =>
    rw [e] at hq
    obtain ⟨B', S', x', m⟩ := S.frz x0 e
    exact ⟨B', _, γ, S', x', FinS.later hq m⟩
theorem c_seq {X : Cx} {C : Gho} {W : WX} {B0 H0 : Hp} {a : S} {r : List S} {x : Stmt} {xs : List Stmt} (h1 : PS X x (tS C X.mg B0 H0 W a)) (h2 : PSs X xs (tSs C X.mg B0 H0 W r)) : PSs X (x :: xs) (tSs C X.mg B0 H0 W (a :: r)) := by
  refine ⟨fun pins s σ H Dn I hq => (pss_cons h1 h2).run pins s σ H Dn I ?_⟩
  obtain ⟨B, ρ, γ, S, x0, hq⟩ := hq
  rw [execs] at hq
  refine ⟨B, ρ, γ, S, x0, ?_⟩
  cases e : exec a ρ γ with
  | nx ρ1 g1 => rw [e] at hq; exact fun B2 σ2 H2 S2 x2 m2 => ⟨B2, ρ1, g1, S2, x2, FinS.later hq m2⟩
  | bk ρ1 g1 => rw [e] at hq; exact hq
  | ct ρ1 g1 => rw [e] at hq; exact hq
  | rt d g1 => rw [e] at hq; exact hq
  | ex c fs g1 => rw [e] at hq; exact hq
  | no => rw [e] at hq; exact hq.elim
theorem c_end {X : Cx} {C : Gho} {W : WX} {B0 H0 : Hp} : PSs X [] (tSs C X.mg B0 H0 W []) := by
  refine ⟨fun pins s σ H Dn I hq => pss_nil.run pins s σ H Dn I ?_⟩
  obtain ⟨B, ρ, γ, S, x0, hq⟩ := hq
  rw [execs] at hq
  exact hq _ _ _ S x0 (Same.refl _)
/-- name = value, of whatever form -/
theorem sw_cell {elt : Expr} {gs : List Comprehension} {scope : Scope} {p2 p : Pos} {y : Str} {l : Nat} {env : PySem.Env} (h : env.scope.names.lookup y = some .cell) : swapsWithSole [.Name y p] (.ListComp elt gs scope p2) l env = pure false := by
  show (pure (env.blockKind == .function && env.kindOf y == some .local && _ && _) : PySem.Sem Bool) = pure false
  have e : (env.kindOf y == some NameKind.local) = false := by
    unfold PySem.Env.kindOf
    rw [h]; rfl
  rw [e, Bool.and_false, Bool.false_and, Bool.false_and]
theorem c_name {X : Cx} {N : List Str} {sc : Scope} {k : Nat} {C : Gho} {W : WX} {H0 : Hp} {i : Nat} {y : Str} {p pos : Pos} {e : E} {x : Expr} {t : TS} (ok : XOk G X N sc k C) (tk : Takes X W) (hi : N[i]? = some y) (hl : locB sc y = true)
    (hw : (match e, x with
      | .lc _ _ _ _, .ListComp _ [⟨_, _, _, 0⟩] scope p2 => (locS sc y && (p.line == p2.line) && lcOwnB y scope) || cellS sc y
      | _, _ => notComp x) = true) (hm : mE N sc e x = true) (al : allE (Knows G X.prog X.w X.K X.mg X.base k) (Names X.K X.mg C) e)
    (core : ∀ Dn σ H, t Dn σ H → tE C X.mg H0 W e σ H (fun v H1 => Dn.nx (σ.set i (some v)) H1)) : PS X (.Assign [.Name y p] x pos) t := by
  split at hw
  · rw [Bool.or_eq_true] at hw
    rcases hw with hw | hw
    · simp only [Bool.and_eq_true] at hw
      have h1 := hw.1.1
      unfold locS at h1
      rw [decide_eq_true_eq] at h1
      exact c_asgLc ok hi h1 hw.1.2 hw.2 tk hm al core
    · unfold cellS at hw
      rw [decide_eq_true_eq] at hw
      have hy : X.env.scope.names.lookup y = some .cell := by
        obtain ⟨q', g1, g2⟩ := ok.sc _ _ hw
        rcases g2 with rfl | ⟨g2, _⟩
        · exact g1
        · cases g2
      refine ⟨fun pins s σ H Dn I h => ?_⟩
      refine (ps_set ok.nd (by rw [ok.hN]; exact hi) (ok.loc hl) (sE _ ok tk hm al) ?_ (ok.locF hl)).run pins s σ H Dn I (core Dn σ H h)
      exact sw_cell (l := pos.line) hy
  · exact c_asg ok hi hl hw (sE e ok tk hm al) core
mutual
theorem sS : ∀ (s : S) {G : Gho → Prop} {X : Cx} {N : List Str} {sc : Scope} {k : Nat} {C : Gho} {W : WX} {B0 H0 : Hp} {x : Stmt}, XOk G X N sc k C → Takes X W → SOk X → mS N sc s x = true → allS (Knows G X.prog X.w X.K X.mg X.base k) (Names X.K X.mg C) s → PS X x (tS C X.mg B0 H0 W s)
  | .set i e, G, X, N, sc, k, C, W, B0, H0, x, ok, tk, hp, h, al => by
    unfold mS at h; rw [allS] at al; split at h
    · rw [Bool.and_eq_true, Bool.and_eq_true, Bool.and_eq_true, Bool.and_eq_true, decide_eq_true_eq] at h
      obtain ⟨⟨⟨⟨h1, h2⟩, h3⟩, h4⟩, h5⟩ := h
      exact c_name ok tk h1 h2 h5 h4 al fun _ _ _ => c_set_core (noB_le h3)
    · cases h
  | .setO i e, G, X, N, sc, k, C, W, B0, H0, x, ok, tk, hp, h, al => by
    unfold mS at h; rw [allS] at al; split at h
    · rw [Bool.and_eq_true, Bool.and_eq_true, Bool.and_eq_true, Bool.and_eq_true, decide_eq_true_eq, decide_eq_true_eq] at h
      obtain ⟨⟨⟨⟨h1, h2⟩, h3⟩, h4⟩, h5⟩ := h
      exact c_name ok tk h1 h2 h5 h4 al fun _ _ _ => c_setO_core h3
    · cases h
  | .par is es, G, X, N, sc, k, C, W, B0, H0, x, ok, tk, hp, h, al => by
    unfold mS at h; rw [allS] at al; split at h
    · simp only [Bool.and_eq_true, decide_eq_true_eq] at h
      obtain ⟨⟨⟨⟨⟨hcm, h1⟩, h2⟩, h3⟩, h4⟩, h5⟩ := h
      exact c_par ok hcm tk h1 h2 h3 h4 h5 al
    · cases h
  | .unp tg e, G, X, N, sc, k, C, W, B0, H0, x, ok, tk, hp, h, al => by
    unfold mS at h; rw [allS] at al; split at h
    · simp only [Bool.and_eq_true] at h
      obtain ⟨⟨⟨h1, h2⟩, h3⟩, h4⟩ := h
      exact c_unp ok h1 h2 (noB_le h3) (sE e ok tk h4 al)
    · cases h
  | .frz i, G, X, N, sc, k, C, W, B0, H0, x, ok, tk, hp, h, al => by
    unfold mS at h; cases h
  | .app i e, G, X, N, sc, k, C, W, B0, H0, x, ok, tk, hp, h, al => by
    unfold mS at h; rw [allS] at al; split at h
    · simp only [Bool.and_eq_true, decide_eq_true_eq] at h
      obtain ⟨⟨⟨⟨⟨rfl, h1⟩, h2⟩, h3⟩, h4⟩, h5⟩ := h
      exact c_app ok h1 h2 h3 (noB_le h4) (sE e ok tk h5 al)
    · cases h
  | .ext i e, G, X, N, sc, k, C, W, B0, H0, x, ok, tk, hp, h, al => by
    unfold mS at h; rw [allS] at al; split at h
    · simp only [Bool.and_eq_true, decide_eq_true_eq] at h
      obtain ⟨⟨⟨⟨⟨rfl, h1⟩, h2⟩, h3⟩, h4⟩, h5⟩ := h
      exact c_ext ok h1 h2 h3 (noB_le h4) (sE e ok tk h5 al)
    · cases h
  | .rem i e, G, X, N, sc, k, C, W, B0, H0, x, ok, tk, hp, h, al => by
    unfold mS at h; rw [allS] at al; split at h
    · simp only [Bool.and_eq_true, decide_eq_true_eq] at h
      obtain ⟨⟨⟨⟨⟨⟨h0, rfl⟩, h1⟩, h2⟩, h3⟩, h4⟩, h5⟩ := h
      exact c_rem ok h0 tk h1 h2 h3 (noB_le h4) (sE e ok tk h5 al)
    · cases h
  | .qcut q l, G, X, N, sc, k, C, W, B0, H0, x, ok, tk, hp, h, al => by
    unfold mS at h; cases h
  | .qflat i j q, G, X, N, sc, k, C, W, B0, H0, x, ok, tk, hp, h, al => by
    unfold mS at h; cases h
  | .setI i a e, G, X, N, sc, k, C, W, B0, H0, x, ok, tk, hp, h, al => by
    unfold mS at h; rw [allS] at al; split at h
    · simp only [Bool.and_eq_true] at h
      obtain ⟨⟨⟨⟨⟨⟨h1, h2⟩, h3⟩, h4⟩, h5⟩, h6⟩, h7⟩ := h
      exact c_setI ok h1 h2 h3 (noB_le h4) (noB_le h5) (sE a ok tk h6 al.1) (sE e ok tk h7 al.2)
    · cases h
  | .aug i op e, G, X, N, sc, k, C, W, B0, H0, x, ok, tk, hp, h, al => by
    unfold mS at h; rw [allS] at al; split at h
    · simp only [Bool.and_eq_true, Bool.or_eq_true, decide_eq_true_eq] at h
      obtain ⟨⟨⟨⟨h1, h2⟩, rfl⟩, h3⟩, h4⟩ := h
      exact c_aug ok h1 h2 h3 (sE e ok tk h4 al)
    · cases h
  | .appPop i j e, G, X, N, sc, k, C, W, B0, H0, x, ok, tk, hp, h, al => by
    unfold mS at h; rw [allS] at al; split at h
    · simp only [Bool.and_eq_true, decide_eq_true_eq] at h
      obtain ⟨⟨⟨⟨⟨⟨⟨⟨rfl, rfl⟩, h1⟩, h2⟩, h3⟩, h4⟩, h5⟩, h6⟩, h7⟩ := h
      exact c_appPop ok h1 h2 h3 h4 h5 (noB_le h6) (sE e ok tk h7 al)
    · cases h
  | .setPop i j e, G, X, N, sc, k, C, W, B0, H0, x, ok, tk, hp, h, al => by
    unfold mS at h; rw [allS] at al; split at h
    · simp only [Bool.and_eq_true, decide_eq_true_eq] at h
      obtain ⟨⟨⟨⟨⟨⟨⟨rfl, h1⟩, h2⟩, h3⟩, h4⟩, h5⟩, h6⟩, h7⟩ := h
      exact c_setPop ok h1 h2 h3 h4 h5 (noB_le h6) (sE e ok tk h7 al)
    · cases h
  | .ins i a e, G, X, N, sc, k, C, W, B0, H0, x, ok, tk, hp, h, al => by
    unfold mS at h; rw [allS] at al; split at h
    · simp only [Bool.and_eq_true, decide_eq_true_eq] at h
      obtain ⟨⟨⟨⟨⟨⟨⟨⟨rfl, h1⟩, h2⟩, h3⟩, h4⟩, h5⟩, h6⟩, h7⟩, h8⟩ := h
      exact c_ins ok h1 h2 h3 h4 (noB_le h5) (noB_le h6) (sE a ok tk h7 al.1) (sE e ok tk h8 al.2)
    · cases h
  | .expr e, G, X, N, sc, k, C, W, B0, H0, x, ok, tk, hp, h, al => by
    unfold mS at h; rw [allS] at al; split at h
    · simp only [Bool.and_eq_true] at h
      exact c_expr h.1 (sE e ok tk h.2 al)
    · cases h
  | .ret e, G, X, N, sc, k, C, W, B0, H0, x, ok, tk, hp, h, al => by
    unfold mS at h; rw [allS] at al; split at h
    · simp only [Bool.and_eq_true] at h
      exact c_ret (noB_le h.1) (sE e ok tk h.2 al)
    · cases h
  | .retN, G, X, N, sc, k, C, W, B0, H0, x, ok, tk, hp, h, al => by
    unfold mS at h; split at h
    · exact c_retN
    · cases h
  | .ift t a b, G, X, N, sc, k, C, W, B0, H0, x, ok, tk, hp, h, al => by
    unfold mS at h; rw [allS] at al; split at h
    · simp only [Bool.and_eq_true] at h
      exact c_if (sT t ok tk h.1.1 al.1) (sSs a ok tk hp h.1.2 al.2.1) (sSs b ok tk hp h.2 al.2.2)
    · cases h
  | .loop tg it b, G, X, N, sc, k, C, W, B0, H0, x, ok, tk, hp, h, al => by
    unfold mS at h; rw [allS] at al; split at h
    · simp only [Bool.and_eq_true] at h
      obtain ⟨⟨⟨⟨⟨⟨hcm, h1⟩, h2⟩, h3⟩, h4⟩, h5⟩, h6⟩ := h
      exact c_loop ok hcm (pr_of h1 h4) hp.ps h1 h2 h3 (sI it ok tk h5 h4 al.1) (sSs b ok tk hp h6 al.2)
    · cases h
  | .whil n t b, G, X, N, sc, k, C, W, B0, H0, x, ok, tk, hp, h, al => by
    unfold mS at h; rw [allS] at al; split at h
    · simp only [Bool.and_eq_true] at h
      exact c_while ok hp.ps (sT t ok tk h.1 al.1) (sSs b ok tk hp h.2 al.2)
    · cases h
  | .never, G, X, N, sc, k, C, W, B0, H0, x, ok, tk, hp, h, al => c_never
  | .brk, G, X, N, sc, k, C, W, B0, H0, x, ok, tk, hp, h, al => by
    unfold mS at h; split at h
    · exact c_brk
    · cases h
  | .cont, G, X, N, sc, k, C, W, B0, H0, x, ok, tk, hp, h, al => by
    unfold mS at h; split at h
    · exact c_cont
    · cases h
  | .rai c es, G, X, N, sc, k, C, W, B0, H0, x, ok, tk, hp, h, al => by
    unfold mS at h; rw [allS] at al; split at h
    · simp only [Bool.and_eq_true, decide_eq_true_eq] at h
      obtain ⟨⟨⟨⟨⟨hcm, rfl⟩, h1⟩, h2⟩, h3⟩, h4⟩ := h
      exact c_rai ok hcm tk h1 h2 h4 (sC es ok tk h2 h3 al.1) al.2
    · cases h
  | .tri L kk i e hs, G, X, N, sc, k, C, W, B0, H0, x, ok, tk, hp, h, al => by
    unfold mS at h; rw [allS] at al; split at h
    · rename_i b y py n b₀ su p1 p2
      simp only [Bool.and_eq_true, decide_eq_true_eq] at h
      obtain ⟨⟨⟨⟨⟨⟨⟨hcm, rfl⟩, h1⟩, h2⟩, h3⟩, h4⟩, hk⟩, h5⟩ := h
      refine c_tri ok hcm tk hp h1 h2 h3 al.2.1 (noB_le hk) ?_ fun {X' C' W' B0' H0'} ok' tk' hp' hm' => sSs hs ok' tk' hp' h4 (by rw [hm']; exact al.2.2 _)
      intro W' pn xe tk'
      have ok' := ok.tr hcm pn xe
      split at h5
      · simp only [Bool.and_eq_true, decide_eq_true_eq] at h5
        obtain ⟨⟨⟨q1, q2⟩, q4⟩, q5⟩ := h5
        exact c_asg ok' q1 q2 q5 (sE e ok' tk' q4 al.1) fun _ _ _ h => h
      · simp only [Bool.and_eq_true] at h5
        exact ps_expr (sE e ok' tk' h5.2 al.1) (sw_plain h5.1)
      · exact ps_ret (sE e ok' tk' h5 al.1)
      · cases h5
    · cases h
theorem sSs : ∀ (s : List S) {G : Gho → Prop} {X : Cx} {N : List Str} {sc : Scope} {k : Nat} {C : Gho} {W : WX} {B0 H0 : Hp} {x : List Stmt}, XOk G X N sc k C → Takes X W → SOk X → mSs N sc s x = true → allSs (Knows G X.prog X.w X.K X.mg X.base k) (Names X.K X.mg C) s → PSs X x (tSs C X.mg B0 H0 W s)
  | [], G, X, N, sc, k, C, W, B0, H0, x, ok, tk, hp, h, al => by
    unfold mSs at h; split at h
    · exact c_end
    · cases h
  | s :: r, G, X, N, sc, k, C, W, B0, H0, x, ok, tk, hp, h, al => by
    unfold mSs at h; rw [allSs] at al; split at h
    · exact c_frz (sSs r ok tk hp h al.2)
    · rw [Bool.and_eq_true] at h
      exact c_seq (sS s ok tk hp h.1 al.1) (sSs r ok tk hp h.2 al.2)
    · cases h
end

/-! ### defs -/
theorem start_get {N : List Str} {vs : List V} {i : Nat} {v : V} (h : vs[i]? = some v) : (L2.start N vs)[i]? = some (some v) := by
  have hl : i < vs.length := (List.getElem?_eq_some_iff.mp h).1
  unfold L2.start
  rw [List.getElem?_append_left (by rw [List.length_map]; exact hl), List.getElem?_map, h]
  rfl
theorem getv {ds : List D} {n i : Nat} {s : Sl} (h : (ds.map Sl.val ++ List.replicate n Sl.un)[i]? = some s) : (∃ d, ds[i]? = some d ∧ s = .val d) ∨ s = .un := by
  by_cases hl : i < ds.length
  · rw [List.getElem?_append_left (by rw [List.length_map]; exact hl), List.getElem?_map] at h
    rw [List.getElem?_eq_getElem hl] at h ⊢
    cases h
    exact .inl ⟨_, rfl, rfl⟩
  · rw [List.getElem?_append_right (by rw [List.length_map]; omega)] at h
    have := List.mem_of_getElem? h
    exact .inr (List.eq_of_mem_replicate this)
theorem start_ok {C : Gho} {H B : Hp} {N : List Str} {vs : List V} {ds : List D} {n : Nat} {γ : D} (hN : n ≤ N.length) (sB : Same B H) (u : ∀ a, C.U a → B a = none) (g : C.rep γ H) (hl : ds.length = n) (r : Reps C.K C.hv B vs ds) : St C H B (L2.start N vs) H (ds.map .val ++ List.replicate (N.length - n) .un) γ where
  sub := sB
  uB := u
  gh := g
  len := by unfold L2.start; simp only [List.length_append, List.length_map, List.length_replicate, r.length, hl]
  val := fun i d h => by
    rcases getv h with ⟨d', h1, h2⟩ | h1
    · cases h2
      obtain ⟨v, h3, h4⟩ := r.get h1
      exact ⟨v, start_get h3, h4⟩
    · cases h1
  ol := fun i d h => by
    rcases getv h with ⟨d', h1, h2⟩ | h1
    · cases h2
    · cases h1
  od := fun i d h => by
    rcases getv h with ⟨d', h1, h2⟩ | h1
    · cases h2
    · cases h1
  er := fun i L c fs h => by
    rcases getv h with ⟨d', h1, h2⟩ | h1
    · cases h2
    · cases h1
  apart := fun i j s t l h1 h2 h3 h4 h5 h6 => by
    rcases getv h1 with ⟨d', _, h⟩ | h
    · subst h; cases h3
    · subst h; cases h3
/-- a def computes what the small language's body does -/
theorem knows_of {P : Program} {w : World} {K : PySem.W.Frag} {mg : Str → Option Value} {base : Heap} {x qual : Str} {st : Stmt} {a : Addr} {fd : FuncData} {N ps : List Str} {k : Nat} {body : List S} (F : Fun K x qual st a fd) (FS : FnScope N ps (defScope st))
    (hb : mSs N (defScope st) body (defBody st) = true) (hN : ps.length ≤ N.length) (hnd : N.Nodup) (hbt : ∀ x ∈ biNames, mg x = none)
    (al : ∀ C : Gho, G C → C.K = K → allSs (Knows G P w K mg base k) (Names K mg C) body) (hmg : mg x = some (.ref a)) (hk : PySem.W.keepIn K (.ref a) = true) (hbind : Binds K fd ps []) : KnowsC G P w K mg base (k + 1) x (fnD ps.length N.length body) := by
  refine ⟨k + 1, a, fd, ps, Nat.le_refl _, fnG_of F FS ?_ ?_, hmg, hk, hbind, ?_⟩
  · rintro vs H Q E ⟨C, B, γ, ds, _, _, _, _, _, _, _, r, hl, _⟩
    rw [r.length, hl]
  · rintro cdv A outer s H vs Q E hg hr ⟨C, B, γ, ds, hK, hG, hn, sB, g, u, hnr, r, hl, hq⟩
    have ok : XOk G (cxOf (L2.CX P w) P w K mg base N qual (defScope st) a cdv A outer s H E) N (defScope st) k C :=
      { hN := rfl, nd := hnd, sc := fun x q h => ⟨q, h, .inl rfl⟩, calm := fun _ => rfl, nr := fun _ => hnr, er := fun L c a od h => (hnr L c a od h).elim, gd := hg, room := fun _ => hr, unt := room_unt hr, hK := hK, hG := hG, hn := hn, bt := hbt, fn := fun _ _ => rfl }
    have tk : Takes (cxOf (L2.CX P w) P w K mg base N qual (defScope st) a cdv A outer s H E) (fun cls d _ H => E cls d H) := takes_of rfl rfl rfl rfl
    refine ⟨tSs C mg B H (fun cls d _ H => E cls d H) body, sSs body ok tk ⟨passes_of rfl, rfl, rfl⟩ hb (al C hG hK), B, ds.map .val ++ List.replicate (N.length - ps.length) .un, γ, ?_, Ext.refl sB, ?_⟩
    · exact start_ok hN sB u g (by rw [hl]) r
    · unfold fnD at hq
      rw [if_pos hl] at hq
      cases e : execs body (ds.map .val ++ List.replicate (N.length - ps.length) .un) γ with
      | nx ρ1 g1 => simp only [e] at hq; exact fun B' σ' H' S x _ => hq .non B' H' x S.gh .non
      | rt d g1 => simp only [e] at hq; exact fun v B' H' x g r => hq v B' H' x g r
      | ex c fs g1 => simp only [e] at hq; exact fun cls od σ' B' H' x g q => hq cls od B' H' x g q
      | bk ρ1 g1 => simp only [e] at hq
      | ct ρ1 g1 => simp only [e] at hq
      | no => simp only [e] at hq
  · intro ds γ h
    unfold fnD
    rw [if_neg h]
end PyI

set_option maxRecDepth 100000
/-! PyI, part U: a law: its first statement makes the ghost. -/
namespace PyI
open PySem PySem.Spec PyProof.Rows L2

theorem Knows.mono {G : Gho → Prop} {P : Program} {w : World} {K : PySem.W.Frag} {mg : Str → Option Value} {base : Heap} {j k : Nat} {f : Str} {m : Sem} (h : Knows G P w K mg base j f m) (hk : j ≤ k) : Knows G P w K mg base k f m := by
  rcases h with ⟨hd, i, a, fd, ps, h1, h2⟩ | h
  · exact .inl ⟨hd, i, a, fd, ps, Nat.le_trans h1 hk, h2⟩
  rcases h with ⟨hd, h⟩ | ⟨hd, i, a, h1, h2⟩ | h
  · refine .inr (.inl ⟨hd, ?_⟩)
    intro X N sc C W H0 x xs es ok
    exact h { ok with room := fun z => (ok.room z).mono hk }
  · exact .inr (.inr (.inl ⟨hd, i, a, Nat.le_trans h1 hk, h2⟩))
  · exact .inr (.inr (.inr h))
/-- nothing is shared -/
def noG (K : PySem.W.Frag) : Gho where
  K := K
  hv := fun _ => .int 0
  U := fun _ => False
  rep := fun _ _ => True
  has := fun _ _ _ _ h => h.elim
  stay := fun _ _ _ h _ => h
def isNo (C : Gho) : Prop := ∃ K, C = noG K
def spLaw (K : PySem.W.Frag) (n : Nat) : Sp := fun vs H Q _ => ∃ (a : Addr) (ns : List Int), vs = [.ref a] ∧ SqL K H a (ns.map V.int) ∧ ns.length ≤ n ∧ ∀ H', Q (.bl true) H'
/-- the law's def: the first statement makes what is shared -/
theorem law_of {G : Gho → Prop} {P : Program} {w : World} {K : PySem.W.Frag} {mg : Str → Option Value} {base : Heap} {st : Stmt} {a : Addr} {fd : FuncData} {N : List Str} {p f : Str} {k n : Nat} {m : Sem} {rest : List S} {x : Stmt} {xs : List Stmt}
    (F : Fun K "law" "law" st a fd) (FS : FnScope N [p] (defScope st)) (hd : defBody st = x :: xs) (hb1 : mS N (defScope st) (.set 1 (.call f m [.v 0])) x = true) (hb : mSs N (defScope st) rest xs = true) (hN : 2 ≤ N.length) (hnd : N.Nodup) (hbt : ∀ x ∈ biNames, mg x = none)
    (hne : ∀ C, G C → ∀ L c a od, ¬ C.er L c a od) (KU : Knows isNo P w K mg base k f m) (al : ∀ C : Gho, G C → C.K = K → allSs (Knows G P w K mg base k) (Names K mg C) rest)
    (conv : ∀ ns : List Int, ns.length ≤ n → ∃ d, m [.scr ns] .non = .ok d .non ∧ ∀ (B H : Hp) (v : V), Same B H → Rep K (noG K).hv B v d →
      ∃ (C : Gho) (γ : D), G C ∧ C.K = K ∧ (∀ n, C.hv n ≠ .non) ∧ C.hv 0 = v ∧ C.rep γ H ∧ ∃ g', execs rest (.un :: .val (.han 0) :: List.replicate (N.length - 2) .un) γ = .rt (.bl true) g') :
    FnG P w K mg base (k + 1) a fd [p] (spLaw K n) := by
  refine fnG_of F FS ?_ ?_
  · rintro vs H Q E ⟨_, _, rfl, _⟩
    rfl
  · rintro cdv A outer s H vs Q E hg hr ⟨a0, ns, rfl, hS, hn, hq⟩
    have ok0 : XOk isNo (cxOf (L2.CX P w) P w K mg base N "law" (defScope st) a cdv A outer s H E) N (defScope st) k (noG K) :=
      { hN := rfl, nd := hnd, sc := fun x q h => ⟨q, h, .inl rfl⟩, calm := fun _ => rfl, nr := fun _ => (fun _ _ _ _ h => h), er := fun _ _ _ _ h => h.elim, gd := hg, room := fun _ => hr, unt := room_unt hr, hK := rfl, hG := ⟨K, rfl⟩, hn := (fun _ z => nomatch z), bt := hbt, fn := fun _ _ => rfl }
    have tk : Takes (cxOf (L2.CX P w) P w K mg base N "law" (defScope st) a cdv A outer s H E) (fun cls d _ H => E cls d H) := takes_of rfl rfl rfl rfl
    have h1 := sS (B0 := H) (H0 := H) (.set 1 (.call f m [.v 0])) ok0 tk ⟨passes_of rfl, rfl, rfl⟩ hb1 (by rw [allS, allE, allEs, allEs, allE]; exact ⟨KU, trivial, trivial⟩)
    have h2 : PSs (cxOf (L2.CX P w) P w K mg base N "law" (defScope st) a cdv A outer s H E) xs (fun Dn σ H1 => ∃ (C : Gho) (B0 H0 : Hp), G C ∧ C.K = K ∧ (∀ n, C.hv n ≠ .non) ∧ tSs C mg B0 H0 (fun cls d _ H => E cls d H) rest Dn σ H1) := by
      refine ⟨fun pins s1 σ H1 Dn I h => ?_⟩
      obtain ⟨C, B0, H0, hG, hK, hn', h⟩ := h
      have ok : XOk G (cxOf (L2.CX P w) P w K mg base N "law" (defScope st) a cdv A outer s H E) N (defScope st) k C :=
        { hN := rfl, nd := hnd, sc := fun x q h => ⟨q, h, .inl rfl⟩, calm := fun _ => rfl, nr := fun _ => hne C hG, er := fun L c a od h => (hne C hG L c a od h).elim, gd := hg, room := fun _ => hr, unt := room_unt hr, hK := hK, hG := hG, hn := hn', bt := hbt, fn := fun _ _ => rfl }
      exact (sSs rest ok tk ⟨passes_of rfl, rfl, rfl⟩ hb (al C hG hK)).run pins s1 σ H1 Dn I h
    rw [hd]
    refine ⟨_, pss_cons h1 h2, ?_⟩
    obtain ⟨d, hm, cv⟩ := conv ns hn
    have sH : Same H H := Same.refl _
    have S0 : St (noG K) H H (L2.start N [.ref a0]) H ([D.scr ns].map .val ++ List.replicate (N.length - 1) .un) .non := start_ok (by omega) sH (fun _ h => h.elim) trivial rfl (.cons (.scr hS) .nil)
    refine ⟨H, _, .non, S0, Ext.refl sH, ?_⟩
    have g0 : getV ([D.scr ns].map Sl.val ++ List.replicate (N.length - 1) Sl.un) 0 = some (.scr ns) := rfl
    have e1 : exec (.set 1 (.call f m [.v 0])) ([D.scr ns].map .val ++ List.replicate (N.length - 1) .un) .non = .nx (([D.scr ns].map Sl.val ++ List.replicate (N.length - 1) Sl.un).set 1 (.val d)) .non := by
      rw [exec, ev, evs, ev, g0]
      simp only [opt, R.bind, evs, hm, R.then]
    rw [e1]
    intro B1 σ1 H1 S1 x1 m1
    have sz : 1 < ([D.scr ns].map Sl.val ++ List.replicate (N.length - 1) Sl.un).length := by simp; omega
    obtain ⟨v, q1, q2⟩ := S1.val 1 d (by rw [List.getElem?_set_self sz])
    obtain ⟨C, γ, c1, c2, c3, c4, c5, g', c6⟩ := cv B1 H1 v S1.sub q2
    refine ⟨C, (fun _ => none), H1, c1, c2, c3, (fun _ => none), (.un :: .val (.han 0) :: List.replicate (N.length - 2) .un), γ, ?_, Ext.refl (fun a o h => nomatch (show (none : Option HO) = some o from h)), ?_⟩
    · have ln : σ1.length = N.length := by
        rw [S1.len]; simp; omega
      have only : ∀ (i : Nat) (s : Sl), (Sl.un :: Sl.val (.han 0) :: List.replicate (N.length - 2) Sl.un)[i]? = some s → (i = 1 ∧ s = .val (.han 0)) ∨ s = .un := by
        intro i s h
        match i, h with
        | 0, h => cases h; exact .inr rfl
        | 1, h => cases h; exact .inl ⟨rfl, rfl⟩
        | i + 2, h => exact .inr (List.eq_of_mem_replicate (List.mem_of_getElem? (show (List.replicate (N.length - 2) Sl.un)[i]? = some s from h)))
      exact {
        sub := fun a o h => nomatch (show (none : Option HO) = some o from h)
        uB := fun _ _ => rfl
        gh := c5
        len := by rw [ln]; simp; omega
        val := fun i d' h => by
          rcases only i _ h with ⟨rfl, e⟩ | e
          · cases e
            exact ⟨v, q1, by rw [← c4]; exact .han 0⟩
          · cases e
        ol := fun i d' h => by
          rcases only i _ h with ⟨_, e⟩ | e <;> cases e
        od := fun i d' h => by
          rcases only i _ h with ⟨_, e⟩ | e <;> cases e
        er := fun i L c fs h => by
          rcases only i _ h with ⟨_, e⟩ | e <;> cases e
        apart := fun i j s t l h1 h2 h3 h4 h5 h6 => by
          rcases only i _ h1 with ⟨_, e⟩ | e <;> (subst e; cases h3) }
    · rw [c6]
      intro u B2 H2 x2 g2 r2
      cases r2
      exact hq H2
end PyI

set_option maxRecDepth 100000
/-! PyI, part V: what the top has written; the family of the urn. -/
namespace PyI
open PySem PySem.Spec PyProof.Rows L2

def DefAt (K : PySem.W.Frag) (mg : Str → Option Value) (x : Str) (st : Stmt) (ps : List Str) : Prop := ∃ (a : Addr) (fd : FuncData), Fun K x x st a fd ∧ mg x = some (.ref a) ∧ Binds K fd ps []
theorem mk_def {K : PySem.W.Frag} {mg : Str → Option Value} {h : Heap} {x : Str} {st : Stmt} {ps : List Str} {f : Addr} {oc kV dc pm cd ct : Value} {od an : Option Addr} {sl : Array (Option Value)} (KX : K.In h) (Gn : h.Ns mainGlobals mg)
    (b : ∀ (kV doc pm : Value) (an : Option Addr) (cdv ct : Value) (us : List Value), us.length = ps.length → bindArgs (PySem.W.fnOf x x (defArgs st) (defBody st) (defScope st) .none kV doc pm an cdv ct) ⟨us, []⟩ = pure (ps.zip us))
    (a1 : PySem.W.nsIn K mainGlobals x = some (some (.ref f))) (l1 : K.lookup f = some ⟨oc, od, .func (PySem.W.fnOf x x (defArgs st) (defBody st) (defScope st) .none kV dc pm an cd ct), sl⟩) (c1 : PySem.W.codeIn K cd x = true) (k1 : PySem.W.keepIn K (.ref f) = true) : DefAt K mg x st ps :=
  ⟨f, _, fun_mk l1 c1 k1, PySem.W.mg_of KX Gn a1, (fun_mk l1 c1 k1).binds b⟩
theorem know_def {G : Gho → Prop} {P : Program} {w : World} {K : PySem.W.Frag} {mg : Str → Option Value} {base : Heap} {x : Str} {st : Stmt} {N ps : List Str} {k : Nat} {body : List S} (DA : DefAt K mg x st ps) (FS : FnScope N ps (defScope st))
    (hb : mSs N (defScope st) body (defBody st) = true) (hN : ps.length ≤ N.length) (hbt : ∀ x ∈ biNames, mg x = none) (al : ∀ C : Gho, G C → C.K = K → allSs (Knows G P w K mg base k) (Names K mg C) body) (hd : isDot x = false := by decide +kernel) : Knows G P w K mg base (k + 1) x (fnD ps.length N.length body) := by
  obtain ⟨a, fd, F, hm, b⟩ := DA
  exact .inl ⟨hd, knows_of F FS hb hN FS.nd hbt al hm F.kp b⟩

/-! ### the urn: a dict of a list of ints and a count -/
def urnV (l : Addr) (t : Int) : List (L2.Key × V) := [(.inr "cells", .ref l), (.inr "turn", .int t)]
def urnD (cs : List Int) (t : Int) : D := .tup [.lst (cs.map .int), .int t]
def urnG (K : PySem.W.Frag) (d l : Addr) : Gho where
  K := K
  hv := fun _ => .ref d
  U := fun a => a = d ∨ a = l
  rep := fun γ H => ∃ cs t, γ = urnD cs t ∧ H d = some (.dK (urnV l t)) ∧ H l = some (.lst (cs.map V.int))
  has := fun γ H a h u => by
    obtain ⟨cs, t, _, h1, h2⟩ := h
    rcases u with rfl | rfl
    · rw [h1]; exact fun z => nomatch z
    · rw [h2]; exact fun z => nomatch z
  stay := fun γ H H' h q => by
    obtain ⟨cs, t, h0, h1, h2⟩ := h
    exact ⟨cs, t, h0, by rw [q _ (.inl rfl)]; exact h1, by rw [q _ (.inr rfl)]; exact h2⟩
def isUrn (C : Gho) : Prop := ∃ K d l, d ≠ l ∧ C = urnG K d l
/-- what is drawn where the cell is small -/
def mixD (c t many : Int) : Int :=
  let m1 := ((c.fmod 1000000007 * 40503 + t * t * 69069) + 362437 * t + 521288629).fmod 2147483629
  let m2 := ((m1 * m1).fmod 2147483587 * 48271).fmod 2147483563
  (((m2 * (m2 + 2 * t + 1)).fmod 2147483629).fdiv 16).fmod many
def pullR (cs : List Int) (t many : Int) : Option (Int × List Int) := match ixN cs.length (t.fmod cs.length) with
  | some j => match cs[j]? with
    | some c => if 10 ^ 18 ≤ c then some (c.fmod many, cs.set j (c.fdiv many)) else some (mixD c t many, cs)
    | none => none
  | none => none
def pullS : Sem := fun ds g => match ds, g with
  | [.han _, .int many], .tup [.lst xs, .int t] => match intsD xs with
    | some cs => if cs ≠ [] ∧ 1 ≤ many ∧ many < 2 ^ 20 ∧ 0 ≤ t ∧ t < 2 ^ 60 then (match pullR cs t many with
      | some (r, cs') => .ok (.int r) (urnD cs' (t + 1))
      | none => .no) else .no
    | none => .no
  | _, _ => .no
theorem intsD_map (ns : List Int) : intsD (ns.map .int) = some ns := by
  induction ns with
  | nil => rfl
  | cons n ns ih => rw [List.map_cons, intsD, ih]; rfl
theorem intsD_of : ∀ {xs : List D} {ns : List Int}, intsD xs = some ns → xs = ns.map .int
  | [], ns, h => by cases h; rfl
  | x :: xs, ns, h => by
    cases x <;> first | (cases h; done) | skip
    rw [intsD] at h
    obtain ⟨m, h1, rfl⟩ := Option.map_eq_some_iff.mp h
    rw [intsD_of h1]; rfl
end PyI

set_option maxRecDepth 100000
/-! PyI, part X: small data; what the evaluator gives. -/
namespace PyI
open PySem PySem.Spec PyProof.Rows L2

/-! ### small data -/
structure Nice (n k : Nat) (d : D) : Prop where
  pl : plain d = true
  lv : (toPy d).leavesShort 60 = true
  sh : (toPy d).showable = true
  w : (toPy d).weight ≤ n
  dp : (toPy d).depth ≤ k
structure NiceS (n k : Nat) (ds : List D) : Prop where
  pl : plains ds = true
  lv : PyData.leavesShortAll 60 (toPys ds) = true
  sh : PyData.showableAll (toPys ds) = true
  w : PyData.weightAll (toPys ds) ≤ n
  dp : PyData.depthAll (toPys ds) ≤ k
theorem Nice.mono {n k m j : Nat} {d : D} (h : Nice n k d) (h1 : n ≤ m) (h2 : k ≤ j) : Nice m j d := ⟨h.pl, h.lv, h.sh, Nat.le_trans h.w h1, Nat.le_trans h.dp h2⟩
theorem NiceS.mono {n k m j : Nat} {d : List D} (h : NiceS n k d) (h1 : n ≤ m) (h2 : k ≤ j) : NiceS m j d := ⟨h.pl, h.lv, h.sh, Nat.le_trans h.w h1, Nat.le_trans h.dp h2⟩
theorem NiceS.nil : NiceS 0 0 [] := ⟨rfl, rfl, rfl, Nat.le_refl _, Nat.le_refl _⟩
theorem NiceS.cons {n m k : Nat} {d : D} {ds : List D} (h : Nice n k d) (t : NiceS m k ds) : NiceS (n + 1 + m) k (d :: ds) where
  pl := by rw [plains, h.pl, t.pl]; rfl
  lv := by rw [toPys, PyData.leavesShortAll, h.lv, t.lv]; rfl
  sh := by rw [toPys, PyData.showableAll, h.sh, t.sh]; rfl
  w := by rw [toPys, PyData.weightAll]; have := h.w; have := t.w; omega
  dp := by rw [toPys, PyData.depthAll]; exact Nat.max_le.mpr ⟨h.dp, t.dp⟩
theorem NiceS.of_all {n k : Nat} : ∀ {ds : List D}, (∀ d ∈ ds, Nice n k d) → NiceS ((n + 1) * ds.length) k ds
  | [], _ => NiceS.nil.mono (Nat.zero_le _) (Nat.zero_le _)
  | d :: ds, h => (NiceS.cons (h d List.mem_cons_self) (NiceS.of_all fun x hx => h x (List.mem_cons_of_mem _ hx))).mono (by rw [List.length_cons, Nat.mul_succ]; omega) (Nat.le_refl _)
theorem NiceS.app {n m k : Nat} : ∀ {ds es : List D}, NiceS n k ds → NiceS m k es → NiceS (n + m) k (ds ++ es)
  | [], es, _, t => t.mono (by omega) (Nat.le_refl _)
  | d :: ds, es, h, t => by
    have hp := h.pl; have hl := h.lv; have hs := h.sh; have hw := h.w; have hd := h.dp
    rw [plains, Bool.and_eq_true] at hp
    rw [toPys, PyData.leavesShortAll, Bool.and_eq_true] at hl
    rw [toPys, PyData.showableAll, Bool.and_eq_true] at hs
    rw [toPys, PyData.weightAll] at hw
    rw [toPys, PyData.depthAll] at hd
    have h1 : Nice (toPy d).weight k d := ⟨hp.1, hl.1, hs.1, Nat.le_refl _, (Nat.max_le.mp hd).1⟩
    have h2 : NiceS (PyData.weightAll (toPys ds)) k ds := ⟨hp.2, hl.2, hs.2, Nat.le_refl _, (Nat.max_le.mp hd).2⟩
    have h3 := NiceS.cons h1 (NiceS.app h2 t)
    exact h3.mono (by omega) (Nat.le_refl _)
theorem NiceS.mem {n k : Nat} {ds : List D} (h : NiceS n k ds) : ∀ d ∈ ds, Nice n k d := by
  intro d hd
  induction ds generalizing n with
  | nil => cases hd
  | cons x xs ih =>
    have hp := h.pl; have hl := h.lv; have hs := h.sh; have hw := h.w; have hk := h.dp
    rw [plains, Bool.and_eq_true] at hp
    rw [toPys, PyData.leavesShortAll, Bool.and_eq_true] at hl
    rw [toPys, PyData.showableAll, Bool.and_eq_true] at hs
    rw [toPys, PyData.weightAll] at hw
    rw [toPys, PyData.depthAll] at hk
    rcases List.mem_cons.mp hd with rfl | hd
    · exact ⟨hp.1, hl.1, hs.1, by omega, (Nat.max_le.mp hk).1⟩
    · exact (ih (n := PyData.weightAll (toPys xs)) ⟨hp.2, hl.2, hs.2, Nat.le_refl _, (Nat.max_le.mp hk).2⟩ hd).mono (by omega) (Nat.le_refl _)
theorem Nice.tup {n k : Nat} {ds : List D} (h : NiceS n k ds) : Nice n (k + 1) (.tup ds) := ⟨by rw [plain]; exact h.pl, by rw [toPy, PyData.leavesShort]; exact h.lv, by rw [toPy, PyData.showable]; exact h.sh, by rw [toPy, PyData.weight]; exact h.w, by rw [toPy, PyData.depth]; exact Nat.succ_le_succ h.dp⟩
theorem Nice.lst {n k : Nat} {ds : List D} (h : NiceS n k ds) : Nice n (k + 1) (.lst ds) := ⟨by rw [plain]; exact h.pl, by rw [toPy, PyData.leavesShort]; exact h.lv, by rw [toPy, PyData.showable]; exact h.sh, by rw [toPy, PyData.weight]; exact h.w, by rw [toPy, PyData.depth]; exact Nat.succ_le_succ h.dp⟩
theorem Nice.untup {n k : Nat} {ds : List D} (h : Nice n (k + 1) (.tup ds)) : NiceS n k ds := ⟨by have := h.pl; rwa [plain] at this, by have := h.lv; rwa [toPy, PyData.leavesShort] at this, by have := h.sh; rwa [toPy, PyData.showable] at this, by have := h.w; rwa [toPy, PyData.weight] at this, by have := h.dp; rw [toPy, PyData.depth] at this; exact Nat.le_of_succ_le_succ this⟩
theorem nice_non {n k : Nat} : Nice n k .non := ⟨rfl, rfl, rfl, Nat.zero_le _, Nat.zero_le _⟩
theorem nice_bl {n k : Nat} {b : Bool} : Nice n k (.bl b) := ⟨rfl, rfl, rfl, Nat.zero_le _, Nat.zero_le _⟩
theorem nice_int {k : Nat} {i : Int} (h : i.natAbs < 10 ^ 50) : Nice 200 k (.int i) := by
  have hl : i.natAbs.log2 < 200 := by
    by_cases h0 : i.natAbs = 0
    · rw [h0]; decide
    · exact (Nat.log2_lt h0).mpr (Nat.lt_trans h (by decide))
  refine ⟨rfl, ?_, ?_, ?_, Nat.zero_le _⟩
  · have := int_text_length_le10 (a := i) (k := 50) (by decide) h
    refine decide_eq_true (show (Str.ofString (toString i)).length ≤ 60 from ?_)
    rw [PySem.ofString_length]
    omega
  · simp only [toPy, PyData.showable, decide_eq_true_eq]
    omega
  · simp only [toPy, PyData.weight]
    split <;> omega
theorem nice_str {k : Nat} {x : Str} (h : ∀ c ∈ x.cps.toList, c < 16 ^ 8) : Nice x.length k (.str x) := ⟨rfl, by simp only [toPy, PyData.leavesShort, List.all_eq_true, decide_eq_true_eq]; exact h, rfl, Nat.le_refl _, Nat.zero_le _⟩
theorem Nice.reprOk {n k : Nat} {d : D} (h : Nice n k d) (hn : n ≤ 200000) (hk : k ≤ 60) : reprOk d = true := by
  have h1 := PyData.shown_le 60 (by decide) _ h.lv
  have h2 := h.w
  have h3 := h.dp
  unfold PyI.reprOk
  rw [h.pl, h.sh, sizeLine_eq]
  simp only [Bool.true_and, Bool.and_eq_true, decide_eq_true_eq]
  omega
theorem nice_ints {n k : Nat} {ns : List Int} (h : ∀ i ∈ ns, i.natAbs < 10 ^ 50) (hn : ns.length ≤ n) : NiceS (201 * n) k (ns.map .int) := by
  refine (NiceS.of_all (n := 200) fun d hd => ?_).mono (by rw [List.length_map]; exact Nat.mul_le_mul_left _ hn) (Nat.le_refl _)
  obtain ⟨i, hi, rfl⟩ := List.mem_map.mp hd
  exact nice_int (h i hi)
end PyI

set_option maxRecDepth 100000
/-! PyI, part Y: the urn's draws, what the evaluator gives. -/
namespace PyI
open PySem PySem.Spec PyProof.Rows L2

/-- an urn of at most n draws -/
def Gd (n : Nat) (γ : D) : Prop := ∃ cs t, γ = urnD cs t ∧ cs ≠ [] ∧ 0 ≤ t ∧ t ≤ n
theorem Gd.mono {n m : Nat} {γ : D} (h : Gd n γ) (hm : n ≤ m) : Gd m γ := by
  obtain ⟨cs, t, h1, h2, h3, h4⟩ := h
  exact ⟨cs, t, h1, h2, h3, by omega⟩
theorem mixD_lt {c t m : Int} (h : 1 ≤ m) : 0 ≤ mixD c t m ∧ mixD c t m < m := by
  unfold mixD
  exact ⟨Int.fmod_nonneg_of_pos _ (by omega), Int.fmod_lt_of_pos _ (by omega)⟩
theorem pull_ok {n h : Nat} {m : Int} {γ : D} (g : Gd n γ) (hn : n < 1000000000) (h1 : 1 ≤ m) (h2 : m < 2 ^ 20) : ∃ r γ', pullS [.han h, .int m] γ = .ok (.int r) γ' ∧ Gd (n + 1) γ' ∧ 0 ≤ r ∧ r < m := by
  obtain ⟨cs, t, rfl, hc, h0, ht⟩ := g
  have hl : (0 : Int) < cs.length := by
    have : cs.length ≠ 0 := fun e => hc (List.length_eq_zero_iff.mp e)
    omega
  have f0 := Int.fmod_nonneg_of_pos t hl
  have f1 := Int.fmod_lt_of_pos t hl
  have hj : ixN cs.length (t.fmod cs.length) = some (t.fmod cs.length).toNat := by
    unfold ixN
    rw [if_pos f0, if_pos f1]
  have hjl : (t.fmod cs.length).toNat < cs.length := by omega
  have hR : ∃ r cs', pullR cs t m = some (r, cs') ∧ cs' ≠ [] ∧ 0 ≤ r ∧ r < m := by
    unfold pullR
    rw [hj]
    simp only [List.getElem?_eq_getElem hjl]
    by_cases hb : (10 : Int) ^ 18 ≤ cs[(t.fmod cs.length).toNat]
    · rw [if_pos hb]
      exact ⟨_, _, rfl, fun e => by have := congrArg List.length e; simp at this; exact hc this, Int.fmod_nonneg_of_pos _ (by omega), Int.fmod_lt_of_pos _ (by omega)⟩
    · rw [if_neg hb]
      exact ⟨_, _, rfl, hc, (mixD_lt h1).1, (mixD_lt h1).2⟩
  obtain ⟨r, cs', e, n1, n2, n3⟩ := hR
  refine ⟨r, urnD cs' (t + 1), ?_, ⟨cs', t + 1, rfl, n1, by omega, by omega⟩, n2, n3⟩
  have hcond : cs ≠ [] ∧ 1 ≤ m ∧ m < 2 ^ 20 ∧ 0 ≤ t ∧ t < 2 ^ 60 := ⟨hc, h1, h2, h0, by omega⟩
  unfold pullS urnD
  simp only [intsD_map]
  rw [if_pos hcond, e]
/-! ### evaluation -/
theorem bF_add {i j : Int} : binF .add (.int i) (.int j) = some (.int (i + j)) := rfl
theorem bF_sub {i j : Int} : binF .sub (.int i) (.int j) = some (.int (i - j)) := rfl
theorem bF_mulL {i j : Int} (h1 : -18446744073709551616 < i) (h2 : i < 18446744073709551616) : binF .mul (.int i) (.int j) = some (.int (i * j)) := if_pos (.inl ⟨h1, h2⟩)
theorem bF_mulR {i j : Int} (h1 : -18446744073709551616 < j) (h2 : j < 18446744073709551616) : binF .mul (.int i) (.int j) = some (.int (i * j)) := if_pos (.inr ⟨h1, h2⟩)
theorem bF_mod {i j : Int} (h : j ≠ 0) : binF .mod (.int i) (.int j) = some (.int (i.fmod j)) := if_pos h
theorem bF_fdiv {i j : Int} (h : j ≠ 0) (h2 : j.natAbs < 1073741824) : binF .fdiv (.int i) (.int j) = some (.int (i.fdiv j)) := if_pos ⟨h, h2⟩
theorem bF_addT {x y : List D} (h : x.length + y.length ≤ 16777216) : binF .add (.tup x) (.tup y) = some (.tup (x ++ y)) := if_pos (by rw [sizeLine_eq]; exact h)
theorem bF_addL {x y : List D} (h : x.length + y.length ≤ 16777216) : binF .add (.lst x) (.lst y) = some (.lst (x ++ y)) := if_pos (by rw [sizeLine_eq]; exact h)
theorem lcL_map {step : D → D → R (Option D)} {f : D → D} {g : D} : ∀ {xs : List D}, (∀ x ∈ xs, step x g = .ok (some (f x)) g) → lcL step xs g = .ok (xs.map f) g
  | [], _ => rfl
  | x :: xs, h => by
    rw [lcL, h x List.mem_cons_self]
    simp only [R.bind, lcL_map fun y hy => h y (List.mem_cons_of_mem _ hy), List.map_cons]
theorem lcL_filter {step : D → D → R (Option D)} {p : D → Bool} {g : D} : ∀ {xs : List D}, (∀ x ∈ xs, step x g = .ok (if p x = true then some x else none) g) → lcL step xs g = .ok (xs.filter p) g
  | [], _ => rfl
  | x :: xs, h => by
    rw [lcL, h x List.mem_cons_self]
    simp only [R.bind, lcL_filter fun y hy => h y (List.mem_cons_of_mem _ hy), List.filter_cons]
    cases p x <;> rfl
/-- a comprehension whose turns draw -/
theorem lcL_draw {step : D → D → R (Option D)} {P : D → Prop} {c : Nat} : ∀ {xs : List D} {n : Nat} {g : D}, Gd n g → n + c * xs.length < 1000000000 → (∀ x ∈ xs, ∀ m g, Gd m g → m + c < 1000000000 → ∃ y g', step x g = .ok (some y) g' ∧ P y ∧ Gd (m + c) g') →
    ∃ ys g', lcL step xs g = .ok ys g' ∧ ys.length = xs.length ∧ (∀ y ∈ ys, P y) ∧ Gd (n + c * xs.length) g'
  | [], n, g, hg, _, _ => ⟨[], g, rfl, rfl, (fun _ h => nomatch h), hg⟩
  | x :: xs, n, g, hg, hn, h => by
    rw [List.length_cons, Nat.mul_succ] at hn
    obtain ⟨y, g1, e1, p1, d1⟩ := h x List.mem_cons_self n g hg (by omega)
    obtain ⟨ys, g2, e2, l2, p2, d2⟩ := lcL_draw d1 (by omega) fun z hz => h z (List.mem_cons_of_mem _ hz)
    refine ⟨y :: ys, g2, ?_, by simp [l2], fun z hz => ?_, d2.mono (by rw [List.length_cons, Nat.mul_succ]; omega)⟩
    · rw [lcL, e1]
      simp only [R.bind, e2]
    · rcases List.mem_cons.mp hz with rfl | hz
      · exact p1
      · exact p2 z hz
end PyI

set_option maxRecDepth 100000
/-! PyI, part Z: the evaluator, step by step. -/
namespace PyI
open PySem PySem.Spec PyProof.Rows L2
def fnR : Rs → R D
  | .nx _ g => .ok .non g
  | .rt d g => .ok d g
  | .ex c fs g => .exc c fs g
  | _ => .no
theorem fn_eq {np n : Nat} {b : List S} {ds : List D} {g : D} (h : ds.length = np) : fnD np n b ds g = fnR (execs b (ds.map .val ++ List.replicate (n - np) .un) g) := by
  unfold fnD
  rw [if_pos h]
  cases execs b (ds.map .val ++ List.replicate (n - np) .un) g <;> rfl
theorem fn1 {n : Nat} {b : List S} {x g : D} : fnD 1 n b [x] g = fnR (execs b (.val x :: List.replicate (n - 1) .un) g) := fn_eq rfl
theorem fn2 {n : Nat} {b : List S} {x y g : D} : fnD 2 n b [x, y] g = fnR (execs b (.val x :: .val y :: List.replicate (n - 2) .un) g) := fn_eq rfl
theorem fn3 {n : Nat} {b : List S} {x y z g : D} : fnD 3 n b [x, y, z] g = fnR (execs b (.val x :: .val y :: .val z :: List.replicate (n - 3) .un) g) := fn_eq rfl
theorem fn4 {n : Nat} {b : List S} {x y z w g : D} : fnD 4 n b [x, y, z, w] g = fnR (execs b (.val x :: .val y :: .val z :: .val w :: List.replicate (n - 4) .un) g) := fn_eq rfl
/-! one statement, then the rest -/
theorem x_nx {s : S} {r : List S} {ρ ρ1 : Rho} {g g1 : D} (h : exec s ρ g = .nx ρ1 g1) : execs (s :: r) ρ g = execs r ρ1 g1 := by
  rw [execs, h]; rfl
theorem x_rt {s : S} {r : List S} {ρ : Rho} {d g g1 : D} (h : exec s ρ g = .rt d g1) : execs (s :: r) ρ g = .rt d g1 := by
  rw [execs, h]; rfl
theorem x_set {i : Nat} {e : E} {ρ : Rho} {d g g1 : D} (h : ev e ρ g = .ok d g1) : exec (.set i e) ρ g = .nx (ρ.set i (.val d)) g1 := by
  rw [exec, h]; rfl
theorem x_setO {i : Nat} {e : E} {ρ : Rho} {d g g1 : D} {s : Sl} (h : ev e ρ g = .ok d g1) (ho : own d = some s) : exec (.setO i e) ρ g = .nx (ρ.set i s) g1 := by
  rw [exec, h]
  show optS (own d) _ = _
  rw [ho]; rfl
theorem x_par {is : List (Nat × Bool)} {es : List E} {ρ ρ1 : Rho} {ds : List D} {g g1 : D} (h : evs es ρ g = .ok ds g1) (ho : setPar ρ is ds = some ρ1) : exec (.par is es) ρ g = .nx ρ1 g1 := by
  rw [exec, h]
  show optS (setPar ρ is ds) _ = _
  rw [ho]; rfl
theorem x_ret {e : E} {ρ : Rho} {d g g1 : D} (h : ev e ρ g = .ok d g1) : exec (.ret e) ρ g = .rt d g1 := by
  rw [exec, h]; rfl
theorem x_ift {t : E} {a b : List S} {ρ : Rho} {g g1 : D} {q : Bool} (h : ev t ρ g = .ok (.bl q) g1) : exec (.ift t a b) ρ g = if q = true then execs a ρ g1 else execs b ρ g1 := by
  rw [exec, h]
  cases q <;> rfl
theorem x_if {t : E} {a b r : List S} {ρ : Rho} {g g1 : D} {q : Bool} (h : ev t ρ g = .ok (.bl q) g1) : execs (.ift t a b :: r) ρ g = ((if q = true then execs a ρ g1 else execs b ρ g1)).seq fun ρ1 g1 => execs r ρ1 g1 := by
  rw [execs, x_ift h]
theorem x_ift_t {t : E} {a b r : List S} {ρ : Rho} {g g1 : D} (h : ev t ρ g = .ok (.bl true) g1) : execs (.ift t a b :: r) ρ g = (execs a ρ g1).seq fun ρ1 g1 => execs r ρ1 g1 := by
  rw [x_if h, if_pos rfl]
theorem x_ift_f {t : E} {a r : List S} {ρ : Rho} {g g1 : D} (h : ev t ρ g = .ok (.bl false) g1) : execs (.ift t a [] :: r) ρ g = execs r ρ g1 := by
  rw [x_if h, if_neg Bool.false_ne_true, execs]; rfl
/-! parts of an expression -/
theorem e_nil {ρ : Rho} {g : D} : evs [] ρ g = .ok [] g := by rw [evs]
theorem e_cons {e : E} {es : List E} {ρ : Rho} {g g1 g2 d : D} {ds : List D} (h : ev e ρ g = .ok d g1) (t : evs es ρ g1 = .ok ds g2) : evs (e :: es) ρ g = .ok (d :: ds) g2 := by
  rw [evs, h]
  show (evs es ρ g1).bind _ = _
  rw [t]; rfl
theorem e_c {k : Cn} {ρ : Rho} {g : D} : ev (.c k) ρ g = .ok k.d g := by rw [ev]
theorem e_v {i : Nat} {ρ : Rho} {d g : D} (h : ρ[i]? = some (.val d)) : ev (.v i) ρ g = .ok d g := by
  rw [ev]; unfold getV; rw [h]; rfl
theorem e_call {f : Str} {m : Sem} {es : List E} {ρ : Rho} {g g1 g2 d : D} {ds : List D} (h : evs es ρ g = .ok ds g1) (k : m ds g1 = .ok d g2) : ev (.call f m es) ρ g = .ok d g2 := by
  rw [ev, h]; exact k
theorem e_bi {f : BI} {es : List E} {ρ : Rho} {g g1 d : D} {ds : List D} (h : evs es ρ g = .ok ds g1) (k : biF f ds = some d) : ev (.bi f es) ρ g = .ok d g1 := by
  rw [ev, h]
  show opt g1 (biF f ds) = _
  rw [k]; rfl
theorem e_bin {op : Bo} {a b : E} {ρ : Rho} {g g1 g2 x y d : D} (h : ev a ρ g = .ok x g1) (h2 : ev b ρ g1 = .ok y g2) (k : binF op x y = some d) : ev (.bin op a b) ρ g = .ok d g2 := by
  rw [ev, h]
  show (ev b ρ g1).bind _ = _
  rw [h2]
  show opt g2 (binF op x y) = _
  rw [k]; rfl
theorem e_cmp {op : Co} {a b : E} {ρ : Rho} {g g1 g2 x y : D} {q : Bool} (h : ev a ρ g = .ok x g1) (h2 : ev b ρ g1 = .ok y g2) (k : cmpF op x y = some q) : ev (.cmp op a b) ρ g = .ok (.bl q) g2 := by
  rw [ev, h]
  show (ev b ρ g1).bind _ = _
  rw [h2]
  show opt g2 ((cmpF op x y).map _) = _
  rw [k]; rfl
theorem e_idx {a b : E} {ρ : Rho} {g g1 g2 x y d : D} (h : ev a ρ g = .ok x g1) (h2 : ev b ρ g1 = .ok y g2) (k : idxF x y = some d) : ev (.idx a b) ρ g = .ok d g2 := by
  rw [ev, h]
  show (ev b ρ g1).bind _ = _
  rw [h2]
  show opt g2 (idxF x y) = _
  rw [k]; rfl
theorem e_tup {es : List E} {ρ : Rho} {g g1 : D} {ds : List D} (h : evs es ρ g = .ok ds g1) : ev (.tup es) ρ g = .ok (.tup ds) g1 := by
  rw [ev, h]; rfl
theorem e_lst {es : List E} {ρ : Rho} {g g1 : D} {ds : List D} (h : evs es ρ g = .ok ds g1) : ev (.lst es) ρ g = .ok (.lst ds) g1 := by
  rw [ev, h]; rfl
/-- a comprehension's turn -/
def lcS (tg : Tg) (ifs : List E) (elt : E) (ρ : Rho) : D → D → R (Option D) := fun x g2 => match bindT tg x (wipeE ρ tg.slots) with
  | some ρ1 => (evAll ifs ρ1 g2).bind fun b g3 => if b then (ev elt ρ1 g3).bind fun y g4 => .ok (some y) g4 else .ok none g3
  | none => .no
theorem e_lc {tg : Tg} {it : I} {ifs : List E} {elt : E} {ρ : Rho} {g g1 g2 : D} {xs ys : List D} (h1 : evI it ρ g = .ok xs g1) (h2 : xs.length ≤ sizeLine) (h3 : lcL (lcS tg ifs elt ρ) xs g1 = .ok ys g2) : ev (.lc tg it ifs elt) ρ g = .ok (.lst ys) g2 := by
  rw [ev, h1]
  show (if xs.length ≤ sizeLine then noexc ((lcL (lcS tg ifs elt ρ) xs g1).bind _) else _) = _
  rw [if_pos h2, h3]; rfl
theorem lcS_one {i : Nat} {elt : E} {ρ : Rho} {x y g g1 : D} (h : ev elt ((ρ.set i .un).set i (.val x)) g = .ok y g1) : lcS (.one i) [] elt ρ x g = .ok (some y) g1 := by
  unfold lcS
  show (evAll [] ((ρ.set i .un).set i (.val x)) g).bind _ = _
  rw [evAll]
  show (ev elt ((ρ.set i .un).set i (.val x)) g).bind _ = _
  rw [h]; rfl
theorem lcS_if {i : Nat} {t elt : E} {ρ : Rho} {x y g g1 g2 : D} {q : Bool} (ht : ev t ((ρ.set i .un).set i (.val x)) g = .ok (.bl q) g1) (h : q = true → ev elt ((ρ.set i .un).set i (.val x)) g1 = .ok y g2) (hq : q = false → g2 = g1) : lcS (.one i) [t] elt ρ x g = .ok (if q = true then some y else none) g2 := by
  unfold lcS
  show (evAll [t] ((ρ.set i .un).set i (.val x)) g).bind _ = _
  rw [evAll, ht]
  cases q with
  | true =>
    show (evAll [] ((ρ.set i .un).set i (.val x)) g1).bind _ = _
    rw [evAll]
    show (ev elt ((ρ.set i .un).set i (.val x)) g1).bind _ = _
    rw [h rfl]; rfl
  | false => rw [hq rfl]; rfl
theorem eqF_int {i j : Int} : eqF (.int i) (.int j) = some (decide (i = j)) := by
  have h : eqF (.int i) (.int j) = some (i == j) := rfl
  rw [h]
  congr 1
theorem eqF_str {i j : Str} : eqF (.str i) (.str j) = some (decide (i = j)) := rfl
theorem e_rng1 {a : E} {ρ : Rho} {g g1 : D} {j : Int} (h : ev a ρ g = .ok (.int j) g1) (hb : inBd j = true) : evI (.rng1 a) ρ g = .ok (rngL 0 j.toNat) g1 := by
  rw [evI, h]
  exact if_pos hb
theorem e_cv {f : BI} {it : I} {ρ : Rho} {g g1 d : D} {xs : List D} (h : evI it ρ g = .ok xs g1) (k : cvF f xs = some d) : ev (.cv f it) ρ g = .ok d g1 := by
  rw [ev, h]
  show opt g1 (cvF f xs) = _
  rw [k]; rfl
theorem e_e {a : E} {ρ : Rho} {g g1 x : D} {xs : List D} (h : ev a ρ g = .ok x g1) (k : itemsF x = some xs) : evI (.e a) ρ g = .ok xs g1 := by
  rw [evI, h]
  show opt g1 (itemsF x) = _
  rw [k]; rfl
theorem inBd_nat {n : Nat} (h : n < 4611686018427387904) : inBd (n : Int) = true := by
  unfold inBd
  simp only [Bool.and_eq_true, decide_eq_true_eq]
  omega
end PyI

set_option maxRecDepth 100000
/-! PyI, part WP: what holds after. -/
namespace PyI
open PySem PySem.Spec PyProof.Rows L2
/-- it gives a value of which Q holds -/
structure W {α : Type} (r : R α) (Q : α → D → Prop) : Prop where
  ok : ∃ a g, r = .ok a g ∧ Q a g
structure O {α : Type} (o : Option α) (Q : α → Prop) : Prop where
  ok : ∃ a, o = some a ∧ Q a
theorem W.mono {α : Type} {r : R α} {Q Q' : α → D → Prop} (h : W r Q) (k : ∀ a g, Q a g → Q' a g) : W r Q' := by
  obtain ⟨a, g, e, q⟩ := h
  exact ⟨a, g, e, k a g q⟩
theorem W.of {α : Type} {r : R α} {Q : α → D → Prop} {a : α} {g : D} (e : r = .ok a g) (h : Q a g) : W r Q := ⟨a, g, e, h⟩
theorem W.elim {α : Type} {r : R α} {Q : α → D → Prop} (h : W r Q) : ∃ a g, r = .ok a g ∧ Q a g := h.ok
theorem W.bind {α β : Type} {r : R α} {f : α → D → R β} {Q : β → D → Prop} (h : W r fun a g => W (f a g) Q) : W (r.bind f) Q := by
  obtain ⟨a, g, rfl, h⟩ := h
  exact h
theorem O.of {α : Type} {o : Option α} {Q : α → Prop} {a : α} (e : o = some a) (h : Q a) : O o Q := ⟨a, e, h⟩
theorem W.opt {α : Type} {o : Option α} {g : D} {Q : α → D → Prop} (h : O o fun a => Q a g) : W (opt g o) Q := by
  obtain ⟨a, rfl, h⟩ := h
  exact ⟨a, g, rfl, h⟩
theorem O.mono {α : Type} {o : Option α} {Q Q' : α → Prop} (h : O o Q) (k : ∀ a, Q a → Q' a) : O o Q' := by
  obtain ⟨a, e, h⟩ := h
  exact ⟨a, e, k a h⟩
theorem O.map {α β : Type} {o : Option α} {f : α → β} {Q : β → Prop} (h : O o fun a => Q (f a)) : O (o.map f) Q := by
  obtain ⟨a, rfl, h⟩ := h
  exact ⟨f a, rfl, h⟩
/-- whether -/
structure Bq (x : D) (Y N : Prop) : Prop where
  ok : ∃ b, x = .bl b ∧ (b = true → Y) ∧ (b = false → N)
theorem Bq.of {b : Bool} {Y N : Prop} (y : b = true → Y) (n : b = false → N) : Bq (.bl b) Y N := ⟨b, rfl, y, n⟩
theorem Bq.t {Y N : Prop} (y : Y) : Bq (.bl true) Y N := ⟨true, rfl, fun _ => y, fun h => nomatch h⟩
theorem Bq.f {Y N : Prop} (n : N) : Bq (.bl false) Y N := ⟨false, rfl, (fun h => nomatch h), fun _ => n⟩
theorem Bq.dec {p : Prop} [Decidable p] {Y N : Prop} (y : p → Y) (n : ¬ p → N) : Bq (.bl (decide p)) Y N := ⟨_, rfl, fun h => y (of_decide_eq_true h), fun h => n (of_decide_eq_false h)⟩
theorem Bq.ndec {p : Prop} [Decidable p] {Y N : Prop} (y : ¬ p → Y) (n : p → N) : Bq (.bl (!decide p)) Y N := ⟨_, rfl, fun h => y (fun hp => by simp [hp] at h), fun h => n (by simpa using h)⟩
structure Mq (b : Bool) (P : Prop) : Prop where
  b : b = true
  p : P
structure Cb (b : Bool) (Y N : Prop) : Prop where
  t : b = true → Y
  f : b = false → N
theorem Cb.yes {Y N : Prop} (y : Y) : Cb true Y N := ⟨fun _ => y, fun h => nomatch h⟩
theorem Cb.nope {Y N : Prop} (n : N) : Cb false Y N := ⟨(fun h => nomatch h), fun _ => n⟩
theorem Cb.dec {p : Prop} [Decidable p] {Y N : Prop} (y : p → Y) (n : ¬ p → N) : Cb (decide p) Y N := ⟨fun h => y (of_decide_eq_true h), fun h => n (of_decide_eq_false h)⟩
section
variable {ρ : Rho} {g : D} {Q : D → D → Prop}
theorem w_c {k : Cn} (h : Q k.d g) : W (ev (.c k) ρ g) Q := .of e_c h
theorem w_cn (h : Q .non g) : W (ev (.c .non) ρ g) Q := .of e_c h
theorem w_cb {b : Bool} (h : Q (.bl b) g) : W (ev (.c (.bl b)) ρ g) Q := .of e_c h
theorem w_ci {i : Int} (h : Q (.int i) g) : W (ev (.c (.int i)) ρ g) Q := .of e_c h
theorem w_cs {s : Str} (h : Q (.str s) g) : W (ev (.c (.str s)) ρ g) Q := .of e_c h
theorem w_v {i : Nat} {d : D} (e : ρ[i]? = some (.val d)) (h : Q d g) : W (ev (.v i) ρ g) Q := .of (e_v e) h
theorem w_vb {i : Nat} {d : D} (e : getB ρ i = some d) (h : Q d g) : W (ev (.vb i) ρ g) Q := .of (by rw [ev, e]; rfl) h
theorem w_g {x : Str} {d : D} (h : Q d g) : W (ev (.g x d) ρ g) Q := .of (by rw [ev]) h
theorem w_neg {a : E} (h : W (ev a ρ g) fun x g1 => O (intOf x) fun i => Q (.int (-i)) g1) : W (ev (.neg a) ρ g) Q := by
  rw [ev]; exact .bind (h.mono fun _ _ h => .opt (.map h))
theorem w_not {a : E} (h : W (ev a ρ g) fun x g1 => O (isBl x) fun b => Q (.bl (!b)) g1) : W (ev (.not a) ρ g) Q := by
  rw [ev]; exact .bind (h.mono fun _ _ h => .opt (.map h))
theorem w_bin {op : Bo} {a b : E} (h : W (ev a ρ g) fun x g1 => W (ev b ρ g1) fun y g2 => O (binF op x y) fun d => Q d g2) : W (ev (.bin op a b) ρ g) Q := by
  rw [ev]; exact .bind (h.mono fun _ _ h => .bind (h.mono fun _ _ h => .opt h))
theorem w_cmp {op : Co} {a b : E} (h : W (ev a ρ g) fun x g1 => W (ev b ρ g1) fun y g2 => O (cmpF op x y) fun d => Q (.bl d) g2) : W (ev (.cmp op a b) ρ g) Q := by
  rw [ev]; exact .bind (h.mono fun _ _ h => .bind (h.mono fun _ _ h => .opt (.map h)))
theorem w_chain {op op' : Co} {a b c : E} (h : W (ev a ρ g) fun x g1 => W (ev b ρ g1) fun y g2 => O (cmpF op x y) fun q => Cb q (W (ev c ρ g2) fun z g3 => O (cmpF op' y z) fun d => Q (.bl d) g3) (Q (.bl false) g2)) : W (ev (.chain op op' a b c) ρ g) Q := by
  rw [ev]; exact .bind (h.mono fun _ _ h => .bind (h.mono fun _ _ h => by
    obtain ⟨q, e, h1, h2⟩ := h
    rw [e]
    cases q with
    | true => exact .bind ((h1 rfl).mono fun _ _ h => .opt (.map h))
    | false => exact .of rfl (h2 rfl)))
theorem w_and {es : List E} (h : W (evAnd es ρ g) Q) : W (ev (.and es) ρ g) Q := by rw [ev]; exact h
theorem w_or {es : List E} (h : W (evOr es ρ g) Q) : W (ev (.or es) ρ g) Q := by rw [ev]; exact h
theorem w_and1 {e : E} (h : W (ev e ρ g) Q) : W (evAnd [e] ρ g) Q := by rw [evAnd]; exact h
theorem w_or1 {e : E} (h : W (ev e ρ g) Q) : W (evOr [e] ρ g) Q := by rw [evOr]; exact h
theorem w_andC {e e' : E} {es : List E} (h : W (ev e ρ g) fun x g1 => Bq x (W (evAnd (e' :: es) ρ g1) Q) (Q (.bl false) g1)) : W (evAnd (e :: e' :: es) ρ g) Q := by
  rw [evAnd]; exact .bind (h.mono fun _ _ h => by
    obtain ⟨b, rfl, h1, h2⟩ := h
    cases b with
    | true => exact h1 rfl
    | false => exact .of rfl (h2 rfl))
theorem w_orC {e e' : E} {es : List E} (h : W (ev e ρ g) fun x g1 => Bq x (Q (.bl true) g1) (W (evOr (e' :: es) ρ g1) Q)) : W (evOr (e :: e' :: es) ρ g) Q := by
  rw [evOr]; exact .bind (h.mono fun _ _ h => by
    obtain ⟨b, rfl, h1, h2⟩ := h
    cases b with
    | true => exact .of rfl (h1 rfl)
    | false => exact h2 rfl)
theorem w_orS {e e' : E} {es : List E} (h : W (ev e ρ g) fun x g1 => ∃ z : Str, x = .str z ∧ (z.length = 0 → W (evOr (e' :: es) ρ g1) fun y g2 => ∃ w : Str, y = .str w ∧ Q y g2) ∧ (z.length ≠ 0 → z.length ≤ sizeLine ∧ Q (.str z) g1)) : W (evOr (e :: e' :: es) ρ g) Q := by
  rw [evOr]; exact .bind (h.mono fun _ _ h => by
    obtain ⟨z, rfl, h1, h2⟩ := h
    dsimp only
    by_cases hz : z.length = 0
    · rw [if_pos hz]
      obtain ⟨d, g2, e, w, rfl, q⟩ := (h1 hz).ok
      rw [e]
      exact .of rfl q
    · rw [if_neg hz, if_pos (h2 hz).1]
      exact .of rfl (h2 hz).2)
theorem w_ife {t a b : E} (h : W (ev t ρ g) fun x g1 => Bq x (W (ev a ρ g1) Q) (W (ev b ρ g1) Q)) : W (ev (.ife t a b) ρ g) Q := by
  rw [ev]; exact .bind (h.mono fun _ _ h => by
    obtain ⟨b, rfl, h1, h2⟩ := h
    cases b with
    | true => exact h1 rfl
    | false => exact h2 rfl)
theorem w_tup {es : List E} (h : W (evs es ρ g) fun ds g1 => Q (.tup ds) g1) : W (ev (.tup es) ρ g) Q := by
  rw [ev]; exact .bind (h.mono fun _ _ h => .of rfl h)
theorem w_lst {es : List E} (h : W (evs es ρ g) fun ds g1 => Q (.lst ds) g1) : W (ev (.lst es) ρ g) Q := by
  rw [ev]; exact .bind (h.mono fun _ _ h => .of rfl h)
theorem w_idx {a b : E} (h : W (ev a ρ g) fun x g1 => W (ev b ρ g1) fun y g2 => O (idxF x y) fun d => Q d g2) : W (ev (.idx a b) ρ g) Q := by
  rw [ev]; exact .bind (h.mono fun _ _ h => .bind (h.mono fun _ _ h => .opt h))
theorem w_slc {a : E} {lo hi : Option E} (h : W (ev a ρ g) fun x g1 => W (evo lo ρ g1) fun l g2 => W (evo hi ρ g2) fun k g3 => O (slcF l.1 k.1 x) fun d => Q d g3) : W (ev (.slc a lo hi) ρ g) Q := by
  rw [ev]; exact .bind (h.mono fun _ _ h => .bind (h.mono fun _ _ h => .bind (h.mono fun _ _ h => .opt h)))
theorem w_rev {a : E} (h : W (ev a ρ g) fun x g1 => O (revF x) fun d => Q d g1) : W (ev (.rev a) ρ g) Q := by
  rw [ev]; exact .bind (h.mono fun _ _ h => .opt h)
theorem w_call {f : Str} {m : Sem} {es : List E} (h : W (evs es ρ g) fun ds g1 => W (m ds g1) Q) : W (ev (.call f m es) ρ g) Q := by
  rw [ev]; exact .bind h
theorem w_bi {f : BI} {es : List E} (h : W (evs es ρ g) fun ds g1 => O (biF f ds) fun d => Q d g1) : W (ev (.bi f es) ρ g) Q := by
  rw [ev]; exact .bind (h.mono fun _ _ h => .opt h)
theorem w_isi {a : E} {t : Ty} (h : W (ev a ρ g) fun x g1 => O (tyF t x) fun d => Q (.bl d) g1) : W (ev (.isi a t) ρ g) Q := by
  rw [ev]; exact .bind (h.mono fun _ _ h => .opt (.map h))
theorem w_lenset {a : E} (h : W (ev a ρ g) fun x g1 => O (lensetF x) fun d => Q d g1) : W (ev (.lenset a) ρ g) Q := by
  rw [ev]; exact .bind (h.mono fun _ _ h => .opt h)
theorem w_mth {m : Mt} {o : E} {es : List E} (h : W (ev o ρ g) fun x g1 => Mq (mtD m x) (W (evs es ρ g1) fun ds g2 => O (mtF m x ds) fun d => Q d g2)) : W (ev (.mth m o es) ρ g) Q := by
  rw [ev]; exact .bind (h.mono fun _ _ h => by rw [h.b, if_pos rfl]; exact .bind (h.p.mono fun _ _ h => .opt h))
theorem w_cv {f : BI} {it : I} (h : W (evI it ρ g) fun xs g1 => O (cvF f xs) fun d => Q d g1) : W (ev (.cv f it) ρ g) Q := by
  rw [ev]; exact .bind (h.mono fun _ _ h => .opt h)
theorem w_dct {ks : List Cn} {es : List E} (h : W (evs es ρ g) fun ds g1 => O (dctF ks ds) fun d => Q d g1) : W (ev (.dct ks es) ρ g) Q := by
  rw [ev]; exact .bind (h.mono fun _ _ h => .opt h)
theorem w_lc {tg : Tg} {it : I} {ifs : List E} {elt : E} (h : W (evI it ρ g) fun xs g1 => xs.length ≤ 16777216 ∧ W (lcL (lcS tg ifs elt ρ) xs g1) fun ys g2 => Q (.lst ys) g2) : W (ev (.lc tg it ifs elt) ρ g) Q := by
  obtain ⟨xs, g1, e, h2, ys, g2, e2, h3⟩ := h
  exact .of (e_lc e (by rw [sizeLine_eq]; exact h2) e2) h3
end
section
variable {ρ : Rho} {g : D}
theorem w_nil {Q : List D → D → Prop} (h : Q [] g) : W (evs [] ρ g) Q := .of e_nil h
theorem w_cons {Q : List D → D → Prop} {e : E} {es : List E} (h : W (ev e ρ g) fun x g1 => W (evs es ρ g1) fun xs g2 => Q (x :: xs) g2) : W (evs (e :: es) ρ g) Q := by
  rw [evs]; exact .bind (h.mono fun _ _ h => .bind (h.mono fun _ _ h => .of rfl h))
theorem w_on {Q : Option Int × Unit → D → Prop} (h : Q (none, ()) g) : W (evo none ρ g) Q := .of (by rw [evo]) h
theorem w_os {Q : Option Int × Unit → D → Prop} {e : E} (h : W (ev e ρ g) fun x g1 => O (intOf x) fun i => Q (some i, ()) g1) : W (evo (some e) ρ g) Q := by
  rw [evo]; exact .bind (h.mono fun _ _ h => .opt (.map h))
theorem w_all0 {Q : Bool → D → Prop} (h : Q true g) : W (evAll [] ρ g) Q := .of (by rw [evAll]) h
theorem w_allC {Q : Bool → D → Prop} {e : E} {es : List E} (h : W (ev e ρ g) fun x g1 => Bq x (W (evAll es ρ g1) Q) (Q false g1)) : W (evAll (e :: es) ρ g) Q := by
  rw [evAll]; exact .bind (h.mono fun _ _ h => by
    obtain ⟨b, rfl, h1, h2⟩ := h
    cases b with
    | true => exact h1 rfl
    | false => exact .of rfl (h2 rfl))
variable {Q : List D → D → Prop}
theorem w_ie {a : E} (h : W (ev a ρ g) fun x g1 => O (itemsF x) fun xs => Q xs g1) : W (evI (.e a) ρ g) Q := by
  rw [evI]; exact .bind (h.mono fun _ _ h => .opt h)
theorem w_rng1 {a : E} (h : W (ev a ρ g) fun x g1 => O (intOf x) fun j => inBd j = true ∧ Q (rngL 0 j.toNat) g1) : W (evI (.rng1 a) ρ g) Q := by
  rw [evI]; exact .bind (h.mono fun x _ h => by
    obtain ⟨j, e, h1, h2⟩ := h
    cases x <;> first | (cases e; done) | skip
    cases e
    exact .of (if_pos h1) h2)
theorem w_rng2 {a b : E} (h : W (ev a ρ g) fun x g1 => W (ev b ρ g1) fun y g2 => O (intOf x) fun i => O (intOf y) fun j => (inBd i = true ∧ inBd j = true) ∧ Q (rngL i (j - i).toNat) g2) : W (evI (.rng2 a b) ρ g) Q := by
  rw [evI]; exact .bind (h.mono fun x _ h => .bind (h.mono fun y _ h => by
    obtain ⟨i, e, j, e', ⟨h1, h1'⟩, h2⟩ := h
    cases x <;> first | (cases e; done) | skip
    cases y <;> first | (cases e'; done) | skip
    cases e
    cases e'
    exact .of (if_pos (by rw [h1, h1']; rfl)) h2))
theorem w_irev {a : E} (h : W (ev a ρ g) fun x g1 => (∃ xs, (x = .lst xs ∨ x = .tup xs) ∧ Q xs.reverse g1)) : W (evI (.rev a) ρ g) Q := by
  rw [evI]; exact .bind (h.mono fun x _ h => by
    obtain ⟨xs, rfl | rfl, h⟩ := h
    · exact .of rfl h
    · exact .of rfl h)
end
/-! a comprehension's turns -/
theorem w_one {i : Nat} {elt : E} {ρ : Rho} {x g : D} {Q : Option D → D → Prop} (h : W (ev elt ((ρ.set i .un).set i (.val x)) g) fun y g1 => Q (some y) g1) : W (lcS (.one i) [] elt ρ x g) Q := by
  obtain ⟨y, g1, e, h⟩ := h
  exact .of (lcS_one e) h
theorem w_oneIf {i : Nat} {ifs : List E} {elt : E} {ρ : Rho} {x g : D} {Q : Option D → D → Prop} (h : W (evAll ifs ((ρ.set i .un).set i (.val x)) g) fun b g1 => Cb b (W (ev elt ((ρ.set i .un).set i (.val x)) g1) fun y g2 => Q (some y) g2) (Q none g1)) : W (lcS (.one i) ifs elt ρ x g) Q := by
  unfold lcS
  show W ((evAll ifs ((ρ.set i .un).set i (.val x)) g).bind _) Q
  refine .bind (h.mono fun b g1 h => ?_)
  cases b with
  | true => exact .bind ((h.t rfl).mono fun _ _ h => .of rfl h)
  | false => exact .of rfl (h.f rfl)
theorem w_tupT {is : List Nat} {ifs : List E} {elt : E} {ρ : Rho} {ds : List D} {g : D} {Q : Option D → D → Prop} (hl : is.length = ds.length) (h : W (evAll ifs (setAll (wipeE ρ is) is ds) g) fun b g1 => Cb b (W (ev elt (setAll (wipeE ρ is) is ds) g1) fun y g2 => Q (some y) g2) (Q none g1)) : W (lcS (.tup is) ifs elt ρ (.tup ds) g) Q := by
  unfold lcS
  have e : bindT (.tup is) (.tup ds) (wipeE ρ (Tg.tup is).slots) = some (setAll (wipeE ρ is) is ds) := if_pos hl
  rw [e]
  refine .bind (h.mono fun b g1 h => ?_)
  cases b with
  | true => exact .bind ((h.t rfl).mono fun _ _ h => .of rfl h)
  | false => exact .of rfl (h.f rfl)
/-- the state holds I; each turn gives f -/
theorem lc_map {step : D → D → R (Option D)} {I : D → Prop} {f : D → Option D} : ∀ {xs : List D} {g : D}, I g → (∀ x ∈ xs, ∀ g, I g → W (step x g) fun o g1 => o = f x ∧ I g1) → W (lcL step xs g) fun ys g1 => ys = xs.filterMap f ∧ I g1
  | [], g, hg, _ => .of rfl ⟨rfl, hg⟩
  | x :: xs, g, hg, h => by
    rw [lcL]
    obtain ⟨o, g1, e, rfl, h1⟩ := h x List.mem_cons_self g hg
    rw [e]
    obtain ⟨ys, g2, e2, rfl, h2⟩ := lc_map h1 fun y hy => h y (List.mem_cons_of_mem _ hy)
    refine .of (a := (x :: xs).filterMap f) (g := g2) ?_ ⟨rfl, h2⟩
    show R.bind (lcL step xs g1) _ = _
    rw [e2, List.filterMap_cons]
    show R.ok _ _ = R.ok _ _
    cases f x <;> rfl
theorem w_map {step : D → D → R (Option D)} {f : D → D} {g : D} {xs : List D} {Q : List D → D → Prop} (h : ∀ x ∈ xs, W (step x g) fun o g1 => o = some (f x) ∧ g1 = g) (q : Q (xs.map f) g) : W (lcL step xs g) Q := by
  refine (lc_map (I := fun g1 => g1 = g) (f := fun x => some (f x)) rfl fun x hx g1 e => by rw [e]; exact h x hx).mono ?_
  rintro _ _ ⟨rfl, rfl⟩
  have : xs.filterMap (fun x => some (f x)) = xs.map f := by
    rw [← List.filterMap_eq_map]; rfl
  rw [this]
  exact q
theorem w_filter {step : D → D → R (Option D)} {p : D → Bool} {g : D} {xs : List D} {Q : List D → D → Prop} (h : ∀ x ∈ xs, W (step x g) fun o g1 => o = (if p x = true then some x else none) ∧ g1 = g) (q : Q (xs.filter p) g) : W (lcL step xs g) Q := by
  refine (lc_map (I := fun g1 => g1 = g) (f := fun x => if p x = true then some x else none) rfl fun x hx g1 e => by rw [e]; exact h x hx).mono ?_
  rintro _ _ ⟨rfl, rfl⟩
  have : xs.filterMap (fun x => if p x = true then some x else none) = xs.filter p := by
    clear h q
    induction xs with
    | nil => rfl
    | cons x xs ih =>
      rw [List.filterMap_cons, List.filter_cons, ih]
      cases p x <;> rfl
  rw [this]
  exact q
/-- each turn draws at most c times; P holds of each -/
theorem w_draw {step : D → D → R (Option D)} {P : D → Prop} {c n : Nat} {g : D} {xs : List D} {Q : List D → D → Prop} (hg : Gd n g) (hn : n + c * xs.length < 1000000000) (h : ∀ x ∈ xs, ∀ m g, Gd m g → m + c < 1000000000 → W (step x g) fun o g1 => (∃ y, o = some y ∧ P y) ∧ Gd (m + c) g1)
    (q : ∀ ys g1, ys.length = xs.length → (∀ y ∈ ys, P y) → Gd (n + c * xs.length) g1 → Q ys g1) : W (lcL step xs g) Q := by
  obtain ⟨ys, g', e, h1, h2, h3⟩ := lcL_draw (step := step) (P := P) hg hn fun x hx m g hg hm => by
    obtain ⟨o, g1, e, ⟨y, rfl, hy⟩, h2⟩ := h x hx m g hg hm
    exact ⟨y, g1, e, hy, h2⟩
  exact .of e (q ys g' h1 h2 h3)
/-! statements -/
def XX (r : Rs) (N : Rho → D → Prop) (T : D → D → Prop) (B C : Rho → D → Prop) : Prop := match r with
  | .nx ρ g => N ρ g
  | .rt d g => T d g
  | .bk ρ g => B ρ g
  | .ct ρ g => C ρ g
  | _ => False
structure X (r : Rs) (N : Rho → D → Prop) (T : D → D → Prop) (B C : Rho → D → Prop) : Prop where
  ok : XX r N T B C
theorem X.nx {ρ : Rho} {g : D} {N : Rho → D → Prop} {T : D → D → Prop} {B C : Rho → D → Prop} (h : N ρ g) : X (.nx ρ g) N T B C := ⟨h⟩
theorem X.mono {r : Rs} {N N' : Rho → D → Prop} {T T' : D → D → Prop} {B B' C C' : Rho → D → Prop} (h : X r N T B C) (hN : ∀ ρ g, N ρ g → N' ρ g) (hT : ∀ d g, T d g → T' d g) (hB : ∀ ρ g, B ρ g → B' ρ g) (hC : ∀ ρ g, C ρ g → C' ρ g) : X r N' T' B' C' := by
  have h := h.ok
  cases r with
  | nx ρ g => exact ⟨hN _ _ h⟩
  | rt d g => exact ⟨hT _ _ h⟩
  | bk ρ g => exact ⟨hB _ _ h⟩
  | ct ρ g => exact ⟨hC _ _ h⟩
  | ex c fs g => exact ⟨h⟩
  | no => exact ⟨h⟩
theorem X.seq {r : Rs} {f : Rho → D → Rs} {N : Rho → D → Prop} {T : D → D → Prop} {B C : Rho → D → Prop} (h : X r (fun ρ g => X (f ρ g) N T B C) T B C) : X (r.seq f) N T B C := by
  have h := h.ok
  cases r with
  | nx ρ g => exact h
  | rt d g => exact ⟨h⟩
  | bk ρ g => exact ⟨h⟩
  | ct ρ g => exact ⟨h⟩
  | ex c fs g => exact ⟨h⟩
  | no => exact ⟨h⟩
theorem X.then {α : Type} {r : R α} {f : α → D → Rs} {N : Rho → D → Prop} {T : D → D → Prop} {B C : Rho → D → Prop} (h : W r fun a g => X (f a g) N T B C) : X (r.then f) N T B C := by
  obtain ⟨a, g, rfl, h⟩ := h
  exact h
theorem X.opt {α : Type} {o : Option α} {f : α → Rs} {N : Rho → D → Prop} {T : D → D → Prop} {B C : Rho → D → Prop} (h : O o fun a => X (f a) N T B C) : X (optS o f) N T B C := by
  obtain ⟨a, rfl, h⟩ := h
  exact h
section
variable {ρ : Rho} {g : D} {N : Rho → D → Prop} {T : D → D → Prop} {B C : Rho → D → Prop}
theorem s_cons {s : S} {r : List S} (h : X (exec s ρ g) (fun ρ1 g1 => X (execs r ρ1 g1) N T B C) T B C) : X (execs (s :: r) ρ g) N T B C := by
  rw [execs]; exact .seq h
theorem s_nil (h : N ρ g) : X (execs [] ρ g) N T B C := by rw [execs]; exact ⟨h⟩
theorem s_set {i : Nat} {e : E} (h : W (ev e ρ g) fun d g1 => N (ρ.set i (.val d)) g1) : X (exec (.set i e) ρ g) N T B C := by
  rw [exec]; exact .then (h.mono fun _ _ h => ⟨h⟩)
theorem s_setO {i : Nat} {e : E} (h : W (ev e ρ g) fun d g1 => O (own d) fun s => N (ρ.set i s) g1) : X (exec (.setO i e) ρ g) N T B C := by
  rw [exec]; exact .then (h.mono fun _ _ h => .opt (h.mono fun _ h => ⟨h⟩))
theorem s_par {is : List (Nat × Bool)} {es : List E} (h : W (evs es ρ g) fun ds g1 => O (setPar ρ is ds) fun ρ1 => N ρ1 g1) : X (exec (.par is es) ρ g) N T B C := by
  rw [exec]; exact .then (h.mono fun _ _ h => .opt (h.mono fun _ h => ⟨h⟩))
theorem s_unp {tg : Tg} {e : E} (h : W (ev e ρ g) fun d g1 => O (bindT tg d ρ) fun ρ1 => N ρ1 g1) : X (exec (.unp tg e) ρ g) N T B C := by
  rw [exec]; exact .then (h.mono fun _ _ h => .opt (h.mono fun _ h => ⟨h⟩))
theorem s_frz {i : Nat} {d : D} (e : getB ρ i = some d) (h : N (ρ.set i (.val d)) g) : X (exec (.frz i) ρ g) N T B C := by
  rw [exec, e]; exact ⟨h⟩
theorem s_app {i : Nat} {e : E} {xs : List D} (e1 : getOl ρ i = some xs) (h : W (ev e ρ g) fun x g1 => xs.length < 16777216 ∧ N (ρ.set i (.ol (xs ++ [x]))) g1) : X (exec (.app i e) ρ g) N T B C := by
  rw [exec, e1]; exact .then (h.mono fun _ _ h => by rw [if_pos (by rw [sizeLine_eq]; exact h.1)]; exact ⟨h.2⟩)
theorem s_rem {i : Nat} {e : E} {ns : List Int} {ρ : Rho} {g : D} {N : Rho → D → Prop} {T : D → D → Prop} {B C : Rho → D → Prop} (e1 : getOl ρ i = some (ns.map .int)) (h : W (ev e ρ g) fun x g1 => ∃ k, x = .int k ∧ k ∈ ns ∧ N (ρ.set i (.ol ((ns.erase k).map .int))) g1) : X (exec (.rem i e) ρ g) N T B C := by
  rw [exec, e1]
  exact .then (h.mono fun x g1 h => by
    obtain ⟨k, rfl, hk, hq⟩ := h
    simp only [intsD_map]
    rw [if_pos hk]
    exact ⟨hq⟩)
theorem s_ext {i : Nat} {e : E} {xs : List D} (e1 : getOl ρ i = some xs) (h : W (ev e ρ g) fun x g1 => ∃ ys, x = .lst ys ∧ xs.length + ys.length ≤ 16777216 ∧ N (ρ.set i (.ol (xs ++ ys))) g1) : X (exec (.ext i e) ρ g) N T B C := by
  rw [exec, e1]; exact .then (h.mono fun _ _ h => by
    obtain ⟨ys, rfl, h1, h2⟩ := h
    show X (if _ then _ else _) _ _ _ _
    rw [if_pos (by rw [sizeLine_eq]; exact h1)]; exact ⟨h2⟩)
theorem s_setI {i : Nat} {k e : E} (h : W (ev e ρ g) fun x g1 => O (getO ρ i) fun s => W (ev k ρ g1) fun y g2 => O (setIF s y x) fun s1 => N (ρ.set i s1) g2) : X (exec (.setI i k e) ρ g) N T B C := by
  rw [exec]; exact .then (h.mono fun _ _ h => by
    obtain ⟨s, e, h⟩ := h
    exact .opt ⟨s, e, .then (h.mono fun _ _ h => .opt (h.mono fun _ h => ⟨h⟩))⟩)
theorem s_aug {i : Nat} {op : Bo} {e : E} {x : D} (e1 : getV ρ i = some x) (h : W (ev e ρ g) fun y g1 => O (augF op x y) fun z => N (ρ.set i (.val z)) g1) : X (exec (.aug i op e) ρ g) N T B C := by
  rw [exec, e1]; exact .then (h.mono fun _ _ h => .opt (h.mono fun _ h => ⟨h⟩))
theorem s_appPop {i j : Nat} {e : E} {xs ys : List D} (e1 : getOl ρ i = some xs) (e2 : getOl ρ j = some ys) (h : W (ev e ρ g) fun x g1 => ∃ (k : Nat) (hk : k < ys.length), x = .int k ∧ (i ≠ j ∧ xs.length < 16777216 ∧ ys.length ≤ 16777216) ∧ N ((ρ.set j (.ol (ys.eraseIdx k))).set i (.ol (xs ++ [ys[k]]))) g1) : X (exec (.appPop i j e) ρ g) N T B C := by
  rw [exec, e1]
  show X (optS (getOl ρ j) _) N T B C
  rw [e2]; exact .then (h.mono fun _ _ h => by
    obtain ⟨k, hk, rfl, ⟨h1, h2, h3⟩, h4⟩ := h
    have hi : ixN ys.length (k : Int) = some k := by
      unfold ixN
      rw [if_pos (by omega), if_pos (by omega)]; rfl
    show X (optS (ixN ys.length (k : Int)) _) N T B C
    rw [hi]
    show X (optS ys[k]? _) N T B C
    rw [List.getElem?_eq_getElem hk]
    show X (if _ then _ else _) N T B C
    rw [if_pos ⟨h1, by rw [sizeLine_eq]; exact h2, by omega, by omega⟩]
    exact ⟨h4⟩)
theorem s_setPop {k j : Nat} {e : E} {ys : List D} (e2 : getOl ρ j = some ys) (h : W (ev e ρ g) fun x g1 => ∃ (n : Nat) (hk : n < ys.length), x = .int n ∧ (k ≠ j ∧ ys.length ≤ 16777216) ∧ N ((ρ.set j (.ol (ys.eraseIdx n))).set k (.val ys[n])) g1) : X (exec (.setPop k j e) ρ g) N T B C := by
  rw [exec, e2]; exact .then (h.mono fun _ _ h => by
    obtain ⟨n, hk, rfl, ⟨h1, h3⟩, h4⟩ := h
    have hi : ixN ys.length (n : Int) = some n := by
      unfold ixN
      rw [if_pos (by omega), if_pos (by omega)]; rfl
    show X (optS (ixN ys.length (n : Int)) _) N T B C
    rw [hi]
    show X (optS ys[n]? _) N T B C
    rw [List.getElem?_eq_getElem hk]
    show X (if _ then _ else _) N T B C
    rw [if_pos ⟨h1, by omega, by omega⟩]
    exact ⟨h4⟩)
theorem s_expr {e : E} (h : W (ev e ρ g) fun _ g1 => N ρ g1) : X (exec (.expr e) ρ g) N T B C := by
  rw [exec]; exact .then (h.mono fun _ _ h => ⟨h⟩)
theorem s_ret {e : E} (h : W (ev e ρ g) fun d g1 => T d g1) : X (exec (.ret e) ρ g) N T B C := by
  rw [exec]; exact .then (h.mono fun _ _ h => ⟨h⟩)
theorem s_retN (h : T .non g) : X (exec .retN ρ g) N T B C := by
  rw [exec]; exact ⟨h⟩
theorem s_ift {t : E} {a b : List S} (h : W (ev t ρ g) fun x g1 => Bq x (X (execs a ρ g1) N T B C) (X (execs b ρ g1) N T B C)) : X (exec (.ift t a b) ρ g) N T B C := by
  rw [exec]; exact .then (h.mono fun _ _ h => by
    obtain ⟨q, rfl, h1, h2⟩ := h
    cases q with
    | true => exact h1 rfl
    | false => exact h2 rfl)
theorem s_brk (h : B ρ g) : X (exec .brk ρ g) N T B C := by rw [exec]; exact ⟨h⟩
theorem s_cont (h : C ρ g) : X (exec .cont ρ g) N T B C := by rw [exec]; exact ⟨h⟩
/-- a loop: I of the items still to come -/
theorem loop_inv {body : D → Rho → D → Rs} {I : List D → Rho → D → Prop} : ∀ {xs : List D} {ρ : Rho} {g : D}, I xs ρ g → (∀ x r ρ g, I (x :: r) ρ g → X (body x ρ g) (I r) T N (I r)) → (∀ ρ g, I [] ρ g → N ρ g) → X (loopL body xs ρ g) N T B C
  | [], ρ, g, h, _, e => ⟨e ρ g h⟩
  | x :: xs, ρ, g, h, st, e => by
    have h1 := st x xs ρ g h
    rw [loopL]
    cases hb : body x ρ g with
    | nx ρ1 g1 => rw [hb] at h1; exact loop_inv (I := I) h1.ok st e
    | rt d g1 => rw [hb] at h1; exact ⟨h1.ok⟩
    | bk ρ1 g1 => rw [hb] at h1; exact ⟨h1.ok⟩
    | ct ρ1 g1 => rw [hb] at h1; exact loop_inv (I := I) h1.ok st e
    | ex c fs g1 => rw [hb] at h1; exact h1.ok.elim
    | no => rw [hb] at h1; exact h1.ok.elim
theorem s_loop {tg : Tg} {it : I} {b : List S} {I : List D → Rho → D → Prop} (h : W (evI it ρ g) fun xs g1 => I xs ρ g1) (st : ∀ x r ρ g, I (x :: r) ρ g → O (bindT tg x ρ) fun ρ1 => X (execs b ρ1 g) (I r) T N (I r)) (e : ∀ ρ g, I [] ρ g → N ρ g) : X (exec (.loop tg it b) ρ g) N T B C := by
  rw [exec]
  exact .then (h.mono fun xs g1 h => loop_inv h (fun x r ρ g hI => .opt (st x r ρ g hI)) e)
theorem whil_inv {t : Rho → D → R D} {body : Rho → D → Rs} {I : Nat → Rho → D → Prop} : ∀ {n : Nat} {ρ : Rho} {g : D}, I n ρ g → (∀ ρ g, ¬ I 0 ρ g) → (∀ n ρ g, I (n + 1) ρ g → W (t ρ g) fun x g1 => Bq x (X (body ρ g1) (I n) T N (I n)) (N ρ g1)) → X (whilL t body n ρ g) N T B C
  | 0, ρ, g, h, z, _ => (z ρ g h).elim
  | n + 1, ρ, g, h, z, st => by
    obtain ⟨x, g1, e, q, rfl, h1, h2⟩ := st n ρ g h
    rw [whilL, e]
    cases q with
    | false => exact ⟨h2 rfl⟩
    | true =>
      have h3 := h1 rfl
      show X (match body ρ g1 with | .nx ρ1 g2 => whilL t body n ρ1 g2 | .ct ρ1 g2 => whilL t body n ρ1 g2 | .bk ρ1 g2 => .nx ρ1 g2 | r => r) N T B C
      cases hb : body ρ g1 with
      | nx ρ1 g2 => rw [hb] at h3; exact whil_inv (I := I) h3.ok z st
      | rt d g2 => rw [hb] at h3; exact ⟨h3.ok⟩
      | bk ρ1 g2 => rw [hb] at h3; exact ⟨h3.ok⟩
      | ct ρ1 g2 => rw [hb] at h3; exact whil_inv (I := I) h3.ok z st
      | ex c fs g2 => rw [hb] at h3; exact h3.ok.elim
      | no => rw [hb] at h3; exact h3.ok.elim
theorem s_whil {n : Nat} {t : E} {b : List S} {I : Nat → Rho → D → Prop} (h : I n ρ g) (z : ∀ ρ g, ¬ I 0 ρ g) (st : ∀ n ρ g, I (n + 1) ρ g → W (ev t ρ g) fun x g1 => Bq x (X (execs b ρ g1) (I n) T N (I n)) (N ρ g1)) : X (exec (.whil n t b) ρ g) N T B C := by
  rw [exec]
  exact whil_inv h z st
end
/-- no break, no continue -/
def no2 : Rho → D → Prop := fun _ _ => False
theorem w_fn {np n : Nat} {b : List S} {ds : List D} {g : D} {Q : D → D → Prop} (hl : ds.length = np) (h : X (execs b (ds.map .val ++ List.replicate (n - np) .un) g) (fun _ g1 => Q .non g1) Q no2 no2) : W (fnD np n b ds g) Q := by
  rw [fn_eq hl]
  cases e : execs b (ds.map .val ++ List.replicate (n - np) .un) g with
  | nx ρ1 g1 => rw [e] at h; exact .of rfl h.ok
  | rt d g1 => rw [e] at h; exact .of rfl h.ok
  | bk ρ1 g1 => rw [e] at h; exact h.ok.elim
  | ct ρ1 g1 => rw [e] at h; exact h.ok.elim
  | ex c fs g1 => rw [e] at h; exact h.ok.elim
  | no => rw [e] at h; exact h.ok.elim
theorem w_pull {n h : Nat} {m : Int} {γ : D} {Q : D → D → Prop} (g : Gd n γ) (hn : n < 1000000000) (h1 : 1 ≤ m) (h2 : m < 2 ^ 20) (q : ∀ r γ', Gd (n + 1) γ' → 0 ≤ r → r < m → Q (.int r) γ') : W (pullS [.han h, .int m] γ) Q := by
  obtain ⟨r, γ', e, h3, h4, h5⟩ := pull_ok g hn h1 h2 (h := h)
  exact .of e (q r γ' h3 h4 h5)
end PyI

set_option maxRecDepth 100000
/-! PyI, part WQ: lists of ints, what holds after. -/
namespace PyI
open PySem PySem.Spec PyProof.Rows L2
theorem w_mapE {α : Type} {e : α → D} {step : D → D → R (Option D)} {f : α → D} {g : D} {xs : List α} {Q : List D → D → Prop} (h : ∀ x ∈ xs, W (step (e x) g) fun o g1 => o = some (f x) ∧ g1 = g) (q : Q (xs.map f) g) : W (lcL step (xs.map e) g) Q := by
  have key : ∀ xs : List α, (∀ x ∈ xs, W (step (e x) g) fun o g1 => o = some (f x) ∧ g1 = g) → lcL step (xs.map e) g = .ok (xs.map f) g := by
    intro xs
    induction xs with
    | nil => intro _; rfl
    | cons x xs ih =>
      intro h
      obtain ⟨o, g1, e1, rfl, rfl⟩ := h x List.mem_cons_self
      rw [List.map_cons, lcL, e1]
      show R.bind (lcL _ _ _) _ = _
      rw [ih fun y hy => h y (List.mem_cons_of_mem _ hy)]; rfl
  exact .of (key xs h) q
theorem w_filterE {α : Type} {e : α → D} {step : D → D → R (Option D)} {p : α → Bool} {g : D} {xs : List α} {Q : List D → D → Prop} (h : ∀ x ∈ xs, W (step (e x) g) fun o g1 => o = (if p x = true then some (e x) else none) ∧ g1 = g) (q : Q ((xs.filter p).map e) g) : W (lcL step (xs.map e) g) Q := by
  have key : ∀ xs : List α, (∀ x ∈ xs, W (step (e x) g) fun o g1 => o = (if p x = true then some (e x) else none) ∧ g1 = g) → lcL step (xs.map e) g = .ok ((xs.filter p).map e) g := by
    intro xs
    induction xs with
    | nil => intro _; rfl
    | cons x xs ih =>
      intro h
      obtain ⟨o, g1, e1, rfl, rfl⟩ := h x List.mem_cons_self
      rw [List.map_cons, lcL, e1]
      show R.bind (lcL _ _ _) _ = _
      rw [ih fun y hy => h y (List.mem_cons_of_mem _ hy), List.filter_cons]
      cases p x <;> rfl
  exact .of (key xs h) q
theorem w_fmE {α : Type} {e : α → D} {step : D → D → R (Option D)} {f : α → Option D} {g : D} {xs : List α} {Q : List D → D → Prop} (h : ∀ x ∈ xs, W (step (e x) g) fun o g1 => o = f x ∧ g1 = g) (q : Q (xs.filterMap f) g) : W (lcL step (xs.map e) g) Q := by
  have key : ∀ xs : List α, (∀ x ∈ xs, W (step (e x) g) fun o g1 => o = f x ∧ g1 = g) → lcL step (xs.map e) g = .ok (xs.filterMap f) g := by
    intro xs
    induction xs with
    | nil => intro _; rfl
    | cons x xs ih =>
      intro h
      obtain ⟨o, g1, e1, rfl, rfl⟩ := h x List.mem_cons_self
      rw [List.map_cons, lcL, e1]
      show R.bind (lcL _ _ _) _ = _
      rw [ih fun y hy => h y (List.mem_cons_of_mem _ hy), List.filterMap_cons]
      cases f x <;> rfl
  exact .of (key xs h) q
theorem all_map {α β : Type} {e : α → β} {R : α → Prop} : ∀ {ys : List β}, (∀ y ∈ ys, ∃ a, y = e a ∧ R a) → ∃ as : List α, ys = as.map e ∧ ∀ a ∈ as, R a
  | [], _ => ⟨[], rfl, fun _ h => nomatch h⟩
  | y :: ys, h => by
    obtain ⟨a, rfl, ha⟩ := h y List.mem_cons_self
    obtain ⟨as, rfl, h2⟩ := all_map fun z hz => h z (List.mem_cons_of_mem _ hz)
    exact ⟨a :: as, rfl, fun b hb => by rcases List.mem_cons.mp hb with rfl | hb; exact ha; exact h2 b hb⟩
theorem perm_mapE {α β : Type} {e : α → β} (he : ∀ a b, e a = e b → a = b) {ys : List β} {xs : List α} (h : ys.Perm (xs.map e)) : ∃ zs : List α, ys = zs.map e ∧ zs.Perm xs := by
  have key : ∀ {zs xs : List α}, (zs.map e).Perm (xs.map e) → zs.Perm xs := by
    intro zs
    induction zs with
    | nil =>
      intro xs h
      have h3 := h.length_eq
      simp at h3
      rw [List.eq_nil_of_length_eq_zero h3.symm]
    | cons z zs ih =>
      intro xs h
      have hz : e z ∈ xs.map e := h.mem_iff.mp List.mem_cons_self
      obtain ⟨a, ha, hae⟩ := List.mem_map.mp hz
      have := he _ _ hae
      subst this
      obtain ⟨s, t, rfl⟩ := List.append_of_mem ha
      have h1 : ((s ++ a :: t).map e).Perm (e a :: (s ++ t).map e) := by
        rw [List.map_append, List.map_append, List.map_cons]
        exact List.perm_middle
      have h2 : (e a :: zs.map e).Perm (e a :: (s ++ t).map e) := h.trans h1
      exact ((ih h2.cons_inv).cons a).trans List.perm_middle.symm
  obtain ⟨zs, rfl, _⟩ := all_map (e := e) (R := fun _ => True) (ys := ys) fun y hy => by
    obtain ⟨a, _, rfl⟩ := List.mem_map.mp (h.mem_iff.mp hy)
    exact ⟨a, rfl, trivial⟩
  exact ⟨zs, rfl, key h⟩
theorem int_inj : ∀ a b : Int, D.int a = D.int b → a = b := fun _ _ h => by cases h; rfl
def iT (ns : List Int) : D := .tup (ns.map .int)
def iL (ns : List Int) : D := .lst (ns.map .int)
theorem iT_inj : ∀ a b : List Int, iT a = iT b → a = b := fun a b h => by
  unfold iT at h
  injection h with h
  induction a generalizing b with
  | nil => cases b with
    | nil => rfl
    | cons _ _ => cases h
  | cons x a ih => cases b with
    | nil => cases h
    | cons y b =>
      rw [List.map_cons, List.map_cons] at h
      injection h with h1 h2
      injection h1 with h1
      rw [h1, ih _ h2]
theorem inBd_int {i : Int} (h0 : -1000000 ≤ i) (h : i ≤ 1000000) : inBd i = true := by
  unfold inBd
  simp only [Bool.and_eq_true, decide_eq_true_eq]
  omega
theorem cF_int {i j : Int} : cmpF .eq (.int i) (.int j) = some (decide (i = j)) := eqF_int
theorem cF_intN {i j : Int} : cmpF .ne (.int i) (.int j) = some (!decide (i = j)) := by
  show (eqF (.int i) (.int j)).map _ = _
  rw [eqF_int]; rfl
theorem cv_list {xs : List D} (h : xs.length ≤ 16777216) : cvF .list xs = some (.lst xs) := if_pos (by rw [sizeLine_eq]; exact h)
theorem cv_tuple {xs : List D} (h : xs.length ≤ 16777216) : cvF .tuple xs = some (.tup xs) := if_pos (by rw [sizeLine_eq]; exact h)
theorem bF_mulT {x : List D} {k : Int} (h : x ≠ [] ∧ 2 ≤ k ∧ k ≤ 1000 ∧ x.length ≤ 1000) : binF .mul (.tup x) (.int k) = some (.tup (List.replicate k.toNat x).flatten) := (if_neg (by omega)).trans (if_pos h)
theorem bF_mulT1k {x : List D} {k : Int} (h : k = 1) : binF .mul (.tup x) (.int k) = some (.tup x) := if_pos h
theorem bF_mulT1 {x : List D} : binF .mul (.tup x) (.int 1) = some (.tup x) := bF_mulT1k rfl
theorem cF_str {i j : Str} : cmpF .eq (.str i) (.str j) = some (decide (i = j)) := rfl
theorem cF_strN {i j : Str} : cmpF .ne (.str i) (.str j) = some (!decide (i = j)) := rfl
theorem o_eqI {i j : Int} {Q : Bool → Prop} (h : Q (decide (i = j))) : O (cmpF .eq (.int i) (.int j)) Q := .of cF_int h
theorem o_neI {i j : Int} {Q : Bool → Prop} (h : Q (!decide (i = j))) : O (cmpF .ne (.int i) (.int j)) Q := .of cF_intN h
theorem o_eqS {i j : Str} {Q : Bool → Prop} (h : Q (decide (i = j))) : O (cmpF .eq (.str i) (.str j)) Q := .of cF_str h
theorem o_neS {i j : Str} {Q : Bool → Prop} (h : Q (!decide (i = j))) : O (cmpF .ne (.str i) (.str j)) Q := .of cF_strN h
theorem eqF_nilB {xs : List D} : cmpF .ne (.lst xs) (.lst []) = some (!decide (xs = [])) := by
  cases xs with
  | nil => rfl
  | cons x xs => rfl
theorem eqF_nilE {xs : List D} : cmpF .eq (.lst xs) (.lst []) = some (decide (xs = [])) := by
  cases xs with
  | nil => rfl
  | cons x xs => rfl
theorem o_neL {xs : List D} {Q : Bool → Prop} (h : Q (!decide (xs = []))) : O (cmpF .ne (.lst xs) (.lst [])) Q := .of eqF_nilB h
theorem o_eqL {xs : List D} {Q : Bool → Prop} (h : Q (decide (xs = []))) : O (cmpF .eq (.lst xs) (.lst [])) Q := .of eqF_nilE h
theorem x_norm {ss : List S} {ρ ρ' : Rho} {g : D} {N : Rho → D → Prop} {T : D → D → Prop} {B C : Rho → D → Prop} (e : ρ = ρ') (h : X (execs ss ρ' g) N T B C) : X (execs ss ρ g) N T B C := e ▸ h
theorem o_addT {x y : List D} {Q : D → Prop} (h : x.length + y.length ≤ 1000000) (k : Q (.tup (x ++ y))) : O (binF .add (.tup x) (.tup y)) Q := .of (bF_addT (by omega)) k
theorem o_addL {x y : List D} {Q : D → Prop} (h : x.length + y.length ≤ 1000000) (k : Q (.lst (x ++ y))) : O (binF .add (.lst x) (.lst y)) Q := .of (bF_addL (by omega)) k
theorem w_slcL {ρ : Rho} {g : D} {Q : D → D → Prop} {a lo : E} (h : W (ev a ρ g) fun x g1 => W (ev lo ρ g1) fun l g2 => O (intOf l) fun i => O (slcF (some i) none x) fun d => Q d g2) : W (ev (.slc a (some lo) none) ρ g) Q :=
  w_slc (h.mono fun _ _ h => w_os (h.mono fun _ _ h => h.mono fun _ h => w_on h))
theorem w_slcH {ρ : Rho} {g : D} {Q : D → D → Prop} {a hi : E} (h : W (ev a ρ g) fun x g1 => W (ev hi ρ g1) fun l g2 => O (intOf l) fun i => O (slcF none (some i) x) fun d => Q d g2) : W (ev (.slc a none (some hi)) ρ g) Q :=
  w_slc (h.mono fun _ _ h => w_on (w_os (h.mono fun _ _ h => h.mono fun _ h => h)))
theorem w_slcB {ρ : Rho} {g : D} {Q : D → D → Prop} {a lo hi : E} (h : W (ev a ρ g) fun x g1 => W (ev lo ρ g1) fun l g2 => O (intOf l) fun i => W (ev hi ρ g2) fun k g3 => O (intOf k) fun j => O (slcF (some i) (some j) x) fun d => Q d g3) : W (ev (.slc a (some lo) (some hi)) ρ g) Q :=
  w_slc (h.mono fun _ _ h => w_os (h.mono fun _ _ h => h.mono fun _ h => w_os (h.mono fun _ _ h => h.mono fun _ h => h)))
def enI : D → Option (List D)
  | .lst xs => some (enumL xs)
  | .tup xs => some (enumL xs)
  | .str z => some (enumL (z.cps.toList.map fun c => .str ⟨#[c]⟩))
  | _ => none
theorem w_enum {ρ : Rho} {g : D} {Q : List D → D → Prop} {a : E} (h : W (ev a ρ g) fun x g1 => O (enI x) fun xs => Q xs g1) : W (evI (.enum a) ρ g) Q := by
  rw [evI]; exact .bind (h.mono fun x _ h => by
    obtain ⟨xs, e, h⟩ := h
    cases x <;> first | (cases e; done) | (cases e; exact .of rfl h))
theorem o_addS {x y : Str} {Q : D → Prop} (h : x.length + y.length ≤ 1000000) (k : Q (.str (x ++ y))) : O (binF .add (.str x) (.str y)) Q := .of (if_pos (by have := sizeLine_eq; omega)) k
theorem o_slcS {z : Str} {lo hi : Option Int} {Q : D → Prop} (h : z.length ≤ 1000000) (k : Q (.str (cutS z lo hi))) : O (slcF lo hi (.str z)) Q := .of (if_pos (by have := sizeLine_eq; omega)) k
theorem o_revS {z : Str} {Q : D → Prop} (h : z.length ≤ 1000000) (k : Q (.str (revS z))) : O (revF (.str z)) Q := .of (if_pos (by have := sizeLine_eq; omega)) k
theorem o_lenS {z : Str} {Q : D → Prop} (h : z.length ≤ 1000000) (k : Q (.int (z.length : Nat))) : O (biF .len [.str z]) Q := .of (if_pos (by have := sizeLine_eq; omega)) k
theorem o_mulS {x : Str} {n : Int} {Q : D → Prop} (h : x.length ≤ 1000 ∧ 0 ≤ n ∧ n ≤ 10000) (k : Q (.str (Txt.mul x n))) : O (binF .mul (.str x) (.int n)) Q := .of (if_pos h) k
end PyI

set_option maxRecDepth 100000
/-! PyI, part WR: plain facts. -/
namespace PyI
open PySem PySem.Spec PyProof.Rows L2
def isInt (lo hi : Int) : D → Bool
  | .int i => decide (lo ≤ i) && decide (i ≤ hi)
  | _ => false
def ordB (n : Nat) : D → Bool
  | .tup xs => decide (xs.length = n) && (xs.all (isInt 0 ((n : Int) - 1)) && (match intsD xs with | some ns => decide ((nub ns).length = n) | none => false))
  | _ => false
theorem ordB_tup {n : Nat} {xs : List D} : ordB n (.tup xs) = (decide (xs.length = n) && (xs.all (isInt 0 ((n : Int) - 1)) && (match intsD xs with | some ns => decide ((nub ns).length = n) | none => false))) := rfl
theorem boolsD_map {α : Type} (f : α → Bool) (xs : List α) : boolsD (xs.map fun x => .bl (f x)) = some (xs.map f) := by
  induction xs with
  | nil => rfl
  | cons x xs ih => rw [List.map_cons, boolsD, ih]; rfl
theorem intsD_all {lo hi : Int} : ∀ {xs : List D}, xs.all (isInt lo hi) = true → ∃ ns : List Int, xs = ns.map D.int ∧ ∀ i ∈ ns, lo ≤ i ∧ i ≤ hi
  | [], _ => ⟨[], rfl, fun _ h => nomatch h⟩
  | x :: xs, h => by
    rw [List.all_cons, Bool.and_eq_true] at h
    obtain ⟨ns, rfl, h2⟩ := intsD_all h.2
    obtain ⟨i, rfl⟩ : ∃ i, x = .int i := by
      have h1 := h.1
      unfold isInt at h1
      split at h1
      · exact ⟨_, rfl⟩
      · cases h1
    have h1 := h.1
    simp only [isInt, Bool.and_eq_true, decide_eq_true_eq] at h1
    exact ⟨i :: ns, rfl, fun j hj => by rcases List.mem_cons.mp hj with rfl | hj; exact h1; exact h2 j hj⟩
theorem plains_mem {xs : List D} (h : plains xs = true) : ∀ x ∈ xs, plain x = true := by
  induction xs with
  | nil => exact fun _ z => nomatch z
  | cons x xs ih =>
    rw [plains, Bool.and_eq_true] at h
    intro y hy
    rcases List.mem_cons.mp hy with rfl | hy
    · exact h.1
    · exact ih h.2 y hy
def isI : D → Bool
  | .int _ => true
  | _ => false
theorem intsD_isI : ∀ {xs : List D}, xs.all isI = true → ∃ ns : List Int, xs = ns.map D.int
  | [], _ => ⟨[], rfl⟩
  | x :: xs, h => by
    rw [List.all_cons, Bool.and_eq_true] at h
    obtain ⟨ns, rfl⟩ := intsD_isI h.2
    obtain ⟨i, rfl⟩ : ∃ i, x = .int i := by
      have h1 := h.1
      unfold isI at h1
      split at h1
      · exact ⟨_, rfl⟩
      · cases h1
    exact ⟨i :: ns, rfl⟩
/-- 0, 1, .. n - 1 -/
def upto (n : Nat) : List Int := (List.range n).map fun (k : Nat) => (k : Int)
theorem rngL_upto (n : Nat) : rngL 0 n = (upto n).map .int := by
  unfold rngL upto
  rw [List.map_map]
  refine List.map_congr_left fun k _ => ?_
  show D.int (0 + (k : Int)) = D.int (k : Int)
  rw [Int.zero_add]
theorem upto_length (n : Nat) : (upto n).length = n := by unfold upto; rw [List.length_map, List.length_range]
theorem mem_upto {n : Nat} {i : Int} : i ∈ upto n ↔ 0 ≤ i ∧ i < n := by
  unfold upto
  rw [List.mem_map]
  constructor
  · rintro ⟨k, hk, rfl⟩
    have := List.mem_range.mp hk
    omega
  · intro ⟨h1, h2⟩
    exact ⟨i.toNat, List.mem_range.mpr (by omega), by omega⟩
theorem upto_sorted (n : Nat) : (upto n).Pairwise (· ≤ ·) := by
  unfold upto
  rw [List.pairwise_map]
  exact List.pairwise_lt_range.imp fun h => by omega
theorem upto_nodup (n : Nat) : (upto n).Nodup := by
  unfold upto
  exact List.Pairwise.map _ (fun a b h e => h (by omega)) List.nodup_range
theorem nub_le (l : List Int) : (nub l).length ≤ l.length := by
  induction l with
  | nil => exact Nat.le_refl _
  | cons x r ih =>
    rw [nub]
    split
    · exact Nat.le_succ_of_le ih
    · exact Nat.succ_le_succ ih
theorem nub_full : ∀ {l : List Int}, (nub l).length = l.length → l.Nodup
  | [], _ => List.nodup_nil
  | x :: r, h => by
    rw [nub] at h
    split at h
    · have := nub_le r
      rw [List.length_cons] at h
      omega
    · rename_i hx
      exact List.nodup_cons.mpr ⟨hx, nub_full (by simpa using h)⟩
theorem nub_of_nodup : ∀ {l : List Int}, l.Nodup → nub l = l
  | [], _ => rfl
  | x :: r, h => by
    obtain ⟨h1, h2⟩ := List.nodup_cons.mp h
    rw [nub, if_neg h1, nub_of_nodup h2]
/-- each once -/
theorem perm_upto {ns : List Int} (hl : (nub ns).length = ns.length) (hr : ∀ i ∈ ns, 0 ≤ i ∧ i ≤ (ns.length : Int) - 1) : (upto ns.length).Perm ns := by
  have nd := nub_full hl
  refine (List.perm_ext_iff_of_nodup (upto_nodup _) nd).mpr fun a => ⟨fun ha => ?_, fun ha => ?_⟩
  · by_cases q : a ∈ ns
    · exact q
    · have h1 : (a :: ns).Nodup := List.nodup_cons.mpr ⟨q, nd⟩
      have := len_le_of_sub h1 (m := upto ns.length) fun x hx => by
        rcases List.mem_cons.mp hx with rfl | hx
        · exact ha
        · have := hr x hx
          exact mem_upto.mpr (by omega)
      rw [upto_length, List.length_cons] at this
      omega
  · have := hr a ha
    exact mem_upto.mpr (by omega)
theorem sort_upto {ns : List Int} : sortI ns = upto ns.length ↔ (nub ns).length = ns.length ∧ ∀ i ∈ ns, 0 ≤ i ∧ i ≤ (ns.length : Int) - 1 := by
  constructor
  · intro h
    have hp : (upto ns.length).Perm ns := by rw [← h]; exact sortI_perm ns
    refine ⟨?_, fun i hi => ?_⟩
    · have nd : ns.Nodup := hp.nodup_iff.mp (upto_nodup _)
      rw [nub_of_nodup nd]
    · have := mem_upto.mp (hp.mem_iff.mpr hi)
      omega
  · intro ⟨h1, h2⟩
    exact (sortI_only (perm_upto h1 h2) (upto_sorted _)).symm
theorem not_isI_filter : ∀ {xs : List D}, xs.filter (fun x => !isI x) = [] ↔ xs.all isI = true
  | [] => by simp
  | x :: xs => by
    rw [List.filter_cons, List.all_cons]
    cases h : isI x with
    | true => simpa using not_isI_filter (xs := xs)
    | false => simp
theorem plain_filter {p : D → Bool} {xs : List D} (h : plains xs = true) : plains (xs.filter p) = true := by
  induction xs with
  | nil => rfl
  | cons x xs ih =>
    rw [plains, Bool.and_eq_true] at h
    rw [List.filter_cons]
    cases p x with
    | true => rw [if_pos rfl, plains, h.1, ih h.2]; rfl
    | false => rw [if_neg Bool.false_ne_true]; exact ih h.2
theorem eqvAll_ints : ∀ {ns ms : List Int}, PyData.eqvAll (toPys (ns.map .int)) (toPys (ms.map .int)) = decide (ns = ms)
  | [], [] => rfl
  | [], _ :: _ => rfl
  | _ :: _, [] => rfl
  | n :: ns, m :: ms => by
    simp only [List.map_cons, toPys, toPy, PyData.eqvAll, PyData.eqv, eqvAll_ints]
    by_cases h1 : n = m
    · subst h1; simp
    · simp [h1]
theorem shaped_ints (ns : List Int) : SeqAt.shaped (toPy (.lst (ns.map .int))) = true ∧ plain (.lst (ns.map .int)) = true := by
  have h : ∀ ns : List Int, PyData.canLayAll0 (toPys (ns.map .int)) = true ∧ PyData.depthAll (toPys (ns.map .int)) = 0 ∧ plains (ns.map .int) = true := by
    intro ns
    induction ns with
    | nil => exact ⟨rfl, rfl, rfl⟩
    | cons n ns ih =>
      obtain ⟨h1, h2, h3⟩ := ih
      refine ⟨?_, ?_, ?_⟩
      · rw [List.map_cons, toPys, PyData.canLayAll0, h1]; rfl
      · rw [List.map_cons, toPys, PyData.depthAll, h2]; rfl
      · rw [List.map_cons, plains, h3]; rfl
  obtain ⟨h1, h2, h3⟩ := h ns
  refine ⟨?_, h3⟩
  unfold SeqAt.shaped
  rw [toPy, PyData.canLay0, h1, PyData.depth, h2]; rfl
theorem eqF_ints {ns ms : List Int} : eqF (.lst (ns.map .int)) (.lst (ms.map .int)) = some (decide (ns = ms)) := by
  unfold eqF
  show (if lenNe _ _ = true then _ else _) = _
  by_cases hl : ns.length = ms.length
  · have h0 : lenNe (.lst (ns.map .int)) (.lst (ms.map .int)) = false := decide_eq_false (by rw [List.length_map, List.length_map]; exact fun h => h hl)
    rw [h0, if_neg Bool.false_ne_true, (shaped_ints ns).1, (shaped_ints ns).2, (shaped_ints ms).1, (shaped_ints ms).2]
    show some (PyData.eqvAll _ _) = _
    rw [eqvAll_ints]
  · have h0 : lenNe (.lst (ns.map .int)) (.lst (ms.map .int)) = true := decide_eq_true (by rw [List.length_map, List.length_map]; exact hl)
    rw [h0, if_pos rfl, decide_eq_false fun e => hl (congrArg List.length e)]
theorem e_v0 {ρ : Rho} {d : D} {i : Nat} {g : D} (h : ρ[i]? = some (.val d)) : ev (.v i) ρ g = .ok d g := e_v h
theorem erase_perm {α : Type} : ∀ {l : List α} {i : Nat} (h : i < l.length), (l.eraseIdx i ++ [l[i]]).Perm l
  | x :: l, 0, _ => List.perm_append_singleton x l
  | x :: l, i + 1, h => (erase_perm (l := l) (i := i) (Nat.lt_of_succ_lt_succ h)).cons x
theorem flat1 {α : Type} (x : α) : ∀ n : Nat, (List.replicate n [x]).flatten = List.replicate n x
  | 0 => rfl
  | n + 1 => by rw [List.replicate_succ, List.flatten_cons, flat1 x n]; rfl
theorem last_perm {p : List Int} {m : Nat} {l : Int} (h : p.Perm (upto m)) (hl : 0 ≤ l ∧ l < m) : (p.filter (fun x => !decide (x = l)) ++ [l]).Perm (upto m) := by
  have hm : l ∈ p := h.mem_iff.mpr (mem_upto.mpr hl)
  have nd : p.Nodup := h.nodup_iff.mpr (upto_nodup m)
  refine List.Perm.trans ?_ h
  have e : p.filter (fun x => !decide (x = l)) = p.erase l := by
    rw [nd.erase_eq_filter]
    refine List.filter_congr fun x _ => ?_
    by_cases q : x = l <;> simp [q, bne]
  rw [e]
  exact List.perm_append_comm.trans (List.perm_cons_erase hm).symm
structure IsRule (m : Nat) (rs : List (List Int)) : Prop where
  lo : 1 ≤ m
  hi : m ≤ 6
  len : rs.length = m + 1
  all : ∀ p ∈ rs, p.Perm (upto m)
structure IsRow (m n : Nat) (row : List Int) : Prop where
  lo : 1 ≤ row.length
  hi : row.length ≤ n
  all : ∀ l ∈ row, 0 ≤ l ∧ l < (m : Int)
def ruleD (rs : List (List Int)) : D := .tup (rs.map iT)
theorem bF_modP {i j : Int} (h : 1 ≤ j) : binF .mod (.int i) (.int j) = some (.int (i.fmod j)) := bF_mod (by omega)
theorem fmod_row {i j : Int} (h : 1 ≤ j) : 0 ≤ i.fmod j ∧ i.fmod j < j := ⟨Int.fmod_nonneg_of_pos _ (by omega), Int.fmod_lt_of_pos _ (by omega)⟩
theorem pick2 {a b : D} {q : Bool} : idxF (.lst [a, b]) (.int (if q = true then 1 else 0)) = some (if q = true then b else a) := by
  cases q <;> rfl
def niceB (n k : Nat) (d : D) : Bool := plain d && (toPy d).leavesShort 60 && (toPy d).showable && decide ((toPy d).weight ≤ n) && decide ((toPy d).depth ≤ k)
theorem Nice.ofB {n k : Nat} {d : D} (h : niceB n k d = true) : Nice n k d := by
  unfold niceB at h
  simp only [Bool.and_eq_true, decide_eq_true_eq] at h
  exact ⟨h.1.1.1.1, h.1.1.1.2, h.1.1.2, h.1.2, h.2⟩
theorem ixN_nat {n k : Nat} (h : k < n) : ixN n (k : Int) = some k := by
  unfold ixN
  rw [if_pos (by omega), if_pos (by omega)]; rfl
theorem atI_mem {α : Type} {xs : List α} {r : Int} (h0 : 0 ≤ r) (h1 : r < xs.length) : ∃ d ∈ xs, atI xs r = some d := by
  obtain ⟨k, rfl⟩ : ∃ k : Nat, r = k := ⟨r.toNat, by omega⟩
  have hk : k < xs.length := by omega
  refine ⟨xs[k], List.getElem_mem hk, ?_⟩
  unfold atI
  rw [ixN_nat hk]
  exact List.getElem?_eq_getElem hk
theorem idx_lst {xs : List D} {r : Int} (h0 : 0 ≤ r) (h1 : r < xs.length) : ∃ d ∈ xs, idxF (.lst xs) (.int r) = some d := atI_mem h0 h1
theorem idx_tup {xs : List D} {r : Int} (h0 : 0 ≤ r) (h1 : r < xs.length) : ∃ d ∈ xs, idxF (.tup xs) (.int r) = some d := atI_mem h0 h1
theorem niceT {xs : List D} (h : ∀ x ∈ xs, Nice 1000 3 x) (hl : xs.length ≤ 130) : Nice 150000 6 (.tup xs) := (Nice.tup (NiceS.of_all h)).mono (by have := Nat.mul_le_mul_left 1001 hl; omega) (by omega)
theorem niceL {xs : List D} (h : ∀ x ∈ xs, Nice 1000 3 x) (hl : xs.length ≤ 130) : Nice 150000 6 (.lst xs) := (Nice.lst (NiceS.of_all h)).mono (by have := Nat.mul_le_mul_left 1001 hl; omega) (by omega)
theorem cut_mem {α : Type} {xs : List α} {lo hi : Option Int} {x : α} (h : x ∈ cutG xs lo hi) : x ∈ xs := List.mem_of_mem_drop (List.mem_of_mem_take h)
theorem cut_len {α : Type} {xs : List α} {lo hi : Option Int} : (cutG xs lo hi).length ≤ xs.length := by
  unfold cutG
  rw [List.length_take, List.length_drop]
  omega
theorem str_small {i : Nat} (h : i < 64) : niceB 1000 3 (.str (toString (i : Int))) = true := List.all_eq_true.mp (show ((List.range 64).all fun i => niceB 1000 3 (.str (toString (i : Int)))) = true by decide +kernel) i (List.mem_range.mpr h)
theorem nint {i : Int} (h : -1 ≤ i ∧ i < 64) : Nice 1000 3 (.int i) := (nice_int (k := 0) (by omega)).mono (by omega) (by omega)
theorem nints {ns : List Int} (h : ∀ i ∈ ns, 0 ≤ i ∧ i < 64) : ∀ x ∈ ns.map D.int, Nice 1000 3 x := by
  intro x hx
  obtain ⟨i, hi, rfl⟩ := List.mem_map.mp hx
  have := h i hi
  exact nint (by omega)
theorem bF_addTn {x y : List D} (h : x.length + y.length ≤ 1000) : binF .add (.tup x) (.tup y) = some (.tup (x ++ y)) := bF_addT (by omega)
theorem len_nat {xs : List D} : biF .len [.tup xs] = some (.int (xs.length : Nat)) := rfl
theorem X.rtT {r : Rs} (h : X r (fun _ _ => False) (fun d _ => d = .bl true) no2 no2) : ∃ g', r = .rt (.bl true) g' := by
  have h := h.ok
  cases r with
  | nx ρ g => exact h.elim
  | rt d g => exact ⟨g, by rw [show d = .bl true from h]⟩
  | bk ρ g => exact h.elim
  | ct ρ g => exact h.elim
  | ex c fs g => exact h.elim
  | no => exact h.elim
theorem o_repr {n k : Nat} {d : D} {Q : D → Prop} (h : Nice n k d) (hn : n ≤ 200000) (hk : k ≤ 60) (q : Q (.str (shownD d))) : O (biF .repr [d]) Q := .of (if_pos (h.reprOk hn hk)) q
theorem nice_row {m n : Nat} {row : List Int} (h : IsRow m n row) (hm : m ≤ 6) (hn : n ≤ 40) : Nice 8040 1 (iT row) := by
  have h1 : NiceS (201 * 40) 0 (row.map .int) := nice_ints (fun i hi => by have := h.all i hi; omega) (by have := h.hi; omega)
  exact Nice.tup h1
theorem nice2 {n m k j : Nat} {a b : D} (h : Nice n k a) (h2 : Nice m j b) : Nice (n + 1 + (m + 1)) (max k j + 1) (.lst [a, b]) :=
  (Nice.lst (NiceS.cons (h.mono (Nat.le_refl _) (Nat.le_max_left _ _)) (NiceS.cons (h2.mono (Nat.le_refl _) (Nat.le_max_right _ _)) (NiceS.nil.mono (m := 0) (j := max k j) (by omega) (by omega))))).mono (by omega) (by omega)
theorem nice_upto {n : Nat} (h : n ≤ 64) : ∀ i ∈ upto n, 0 ≤ i ∧ i < 64 := fun i hi => by have := mem_upto.mp hi; omega
theorem nintL {xs : List D} (h : ∀ x ∈ xs, Nice 1000 3 x) (hl : xs.length ≤ 130) : Nice 150000 6 (.lst xs) := niceL h hl
theorem bF_mulL31 {b : Bool} {x : D} : binF .mul (.lst [x]) (.int (if b = true then 1 else 0)) = some (.lst (if b = true then [x] else [])) := by
  cases b <;> rfl
theorem reps_ints {K : PySem.W.Frag} {hv : Nat → V} {B : Hp} : ∀ {cs : List Int} {vs : List V}, Reps K hv B vs (cs.map .int) → vs = cs.map .int
  | [], _, h => by cases h; rfl
  | c :: cs, _, h => by
    cases h with
    | cons a b =>
      cases a
      rw [reps_ints b]; rfl
end PyI

set_option maxRecDepth 100000
/-! PyI, part RL: the urn of three: deep, all, times. -/
namespace PyI
open PySem PySem.Spec PyProof.Rows L2
def canV (l1 l2 : Addr) (t : Int) : List (L2.Key × V) := [(.inr "deep", .ref l1), (.inr "all", .ref l2), (.inr "times", .int t)]
def canD (dp al : List Int) (t : Int) : D := .tup [.lst (dp.map .int), .lst (al.map .int), .int t]
def canU (d l1 l2 : Addr) : Addr → Prop := fun a => a = d ∨ a = l1 ∨ a = l2
def canG (K : PySem.W.Frag) (d l1 l2 : Addr) : Gho where
  K := K
  hv := fun _ => .ref d
  U := canU d l1 l2
  rep := fun γ H => ∃ dp al t, γ = canD dp al t ∧ H d = some (.dK (canV l1 l2 t)) ∧ H l1 = some (.lst (dp.map V.int)) ∧ H l2 = some (.lst (al.map V.int))
  has := fun γ H a h u => by
    obtain ⟨dp, al, t, _, h1, h2, h3⟩ := h
    rcases u with rfl | rfl | rfl
    · rw [h1]; exact fun z => nomatch z
    · rw [h2]; exact fun z => nomatch z
    · rw [h3]; exact fun z => nomatch z
  stay := fun γ H H' h q => by
    obtain ⟨dp, al, t, h0, h1, h2, h3⟩ := h
    exact ⟨dp, al, t, h0, by rw [q _ (.inl rfl)]; exact h1, by rw [q _ (.inr (.inl rfl))]; exact h2, by rw [q _ (.inr (.inr rfl))]; exact h3⟩
def isCan (C : Gho) : Prop := ∃ K d l1 l2, d ≠ l1 ∧ d ≠ l2 ∧ l1 ≠ l2 ∧ C = canG K d l1 l2
/-- the first that is above 0 -/
def rollDeep (m : Int) : List Int → Option (Int × List Int)
  | [] => none
  | c :: r => if 0 < c then some (c.fmod m, c.fdiv m :: r) else rollDeep m r
def seedD (c t m : Int) : Int :=
  let s1 := c.fmod 2971215073 + 3141592653 * (t + 1)
  let s2 := (s1.fmod 2971215073 * (s1.fmod 63029 + 11)).fmod 2971215073
  let s3 := ((s2 * s2 + 27644437 * t).fmod 2971215073 * 1500450271).fmod 2971215073
  (s3.fdiv 32).fmod m
def rollR (dp al : List Int) (t m : Int) : Option (Int × D) := match rollDeep m dp with
  | some (r, dp') => some (r, canD dp' al t)
  | none => match ixN al.length (t.fmod al.length) with
    | some j => match al[j]? with
      | some c => some (seedD c t m, canD [] al (t + 1))
      | none => none
    | none => none
def rollS : Sem := fun ds g => match ds, g with
  | [.han _, .int m], .tup [.lst xs, .lst ys, .int t] => match intsD xs, intsD ys with
    | some dp, some al => if (al ≠ [] ∧ 1 ≤ m ∧ m < 2 ^ 30) ∧ dp.length ≤ 100 ∧ 0 ≤ t ∧ t < 2 ^ 60 then (match rollR dp al t m with
      | some (r, g') => .ok (.int r) g'
      | none => .no) else .no
    | _, _ => .no
  | _, _ => .no
theorem rollS_ok {ds : List D} {g : D} (h : rollS ds g ≠ .no) : ∃ n m dp al t r g', ds = [.han n, .int m] ∧ g = canD dp al t ∧ (al ≠ [] ∧ 1 ≤ m ∧ m < 2 ^ 30) ∧ dp.length ≤ 100 ∧ 0 ≤ t ∧ t < 2 ^ 60 ∧ rollR dp al t m = some (r, g') ∧ rollS ds g = .ok (.int r) g' := by
  unfold rollS at h
  split at h
  · rename_i n m xs ys t
    split at h
    · rename_i dp al e1 e2
      obtain rfl := intsD_of e1
      obtain rfl := intsD_of e2
      split at h
      · rename_i hc
        split at h
        · rename_i r g' e3
          refine ⟨n, m, dp, al, t, r, g', rfl, rfl, hc.1, hc.2.1, hc.2.2.1, hc.2.2.2, e3, ?_⟩
          unfold rollS
          simp only [e1, e2]
          rw [if_pos hc, e3]
        · exact absurd rfl h
      · exact absurd rfl h
    · exact absurd rfl h
  · exact absurd rfl h
theorem canD_inj {dp dp' al al' : List Int} {t t' : Int} (h : canD dp al t = canD dp' al' t') : dp = dp' ∧ al = al' ∧ t = t' := by
  unfold canD at h
  have := D.tup.inj h
  simp only [List.cons.injEq, D.lst.injEq, D.int.injEq, and_true] at this
  exact ⟨by have h := congrArg intsD this.1; rw [intsD_map, intsD_map] at h; exact Option.some.inj h, by have h := congrArg intsD this.2.1; rw [intsD_map, intsD_map] at h; exact Option.some.inj h, this.2.2⟩
/-- only the three change -/
theorem ext_can {U : Addr → Prop} {B H B' H' H'' : Hp} (x : Ext U B H B' H') (hU : ∀ a, U a → B' a = none) (h1 : ∀ a, U a → H' a ≠ none → H'' a ≠ none) (h : ∀ a, ¬ U a → H'' a = H' a) : Ext U B H B' H'' where
  b := x.b
  s := fun a o e => by
    have n : ¬ U a := fun u => by rw [hU a u] at e; cases e
    rw [h a n]; exact x.s a o e
  new := x.new
  keep := fun a o e n => by rw [h a n]; exact x.keep a o e n
  uk := fun a u n => h1 a u (x.uk a u n)
def rollN : List Str := ["_law_can", "_law_many", "_law_rest", "_law_times", "_law_cells", "_law_seed"]
def restRoll : List S := [.set 5 (.bin .mod (.bin .mul (.bin .mod (.v 5) (.c (.int 2971215073))) (.bin .add (.bin .mod (.v 5) (.c (.int 63029))) (.c (.int 11)))) (.c (.int 2971215073))),
  .set 5 (.bin .mod (.bin .mul (.bin .mod (.bin .add (.bin .mul (.v 5) (.v 5)) (.bin .mul (.c (.int 27644437)) (.v 3))) (.c (.int 2971215073))) (.c (.int 1500450271))) (.c (.int 2971215073))),
  .ret (.bin .mod (.bin .fdiv (.v 5) (.c (.int 32))) (.v 1))]
theorem fmod_lt' (x : Int) {k : Int} (h0 : 0 < k) (h : k < 18446744073709551616) : -18446744073709551616 < x.fmod k ∧ x.fmod k < 18446744073709551616 := by
  have h1 := Int.fmod_nonneg_of_pos x h0
  have h2 := Int.fmod_lt_of_pos x h0
  omega
theorem bF_fdiv32 {i : Int} : binF .fdiv (.int i) (.int 32) = some (.int (i.fdiv 32)) := bF_fdiv (by decide) (by decide)
theorem roll_run {many t c : Int} {a r b : Sl} {g : D} (h1 : 1 ≤ many) : execs restRoll [a, .val (.int many), r, .val (.int t), b, .val (.int (c.fmod 2971215073 + 3141592653 * (t + 1)))] g = .rt (.int (seedD c t many)) g := by
  have f1 : ∀ x : Int, -18446744073709551616 < x.fmod 2971215073 := fun x => (fmod_lt' x (by decide) (by decide)).1
  have f2 : ∀ x : Int, x.fmod 2971215073 < 18446744073709551616 := fun x => (fmod_lt' x (by decide) (by decide)).2
  have m0 : many ≠ 0 := by omega
  unfold restRoll
  simp only [execs, exec, ev, R.bind, R.then, opt, optS, Rs.seq, getV, Cn.d, List.getElem?_cons_zero, List.getElem?_cons_succ, List.set_cons_zero, List.set_cons_succ, bF_add, bF_mod, bF_fdiv32, bF_mulL (f1 _) (f2 _), bF_mulL, bF_mulR, ne_eq, Int.reduceEq, not_false_eq_true, Int.reduceLT, Int.reduceNeg, m0]
  rfl
end PyI

set_option maxRecDepth 100000
/-! PyI, part RM: draws of any urn; the urn of three. -/
namespace PyI
open PySem PySem.Spec PyProof.Rows L2
/-- each turn draws at most c times; P holds of each -/
theorem w_drawG {G : Nat → D → Prop} (mono : ∀ (n m : Nat) (γ : D), G n γ → n ≤ m → G m γ) {step : D → D → R (Option D)} {P : D → Prop} {c : Nat} : ∀ {xs : List D} {n : Nat} {g : D} {Q : List D → D → Prop}, G n g → n + c * xs.length < 1000000000 →
    (∀ x ∈ xs, ∀ (m : Nat) (γ : D), G m γ → m + c < 1000000000 → W (step x γ) fun o g1 => (∃ y, o = some y ∧ P y) ∧ G (m + c) g1) → (∀ ys g1, ys.length = xs.length → (∀ y ∈ ys, P y) → G (n + c * xs.length) g1 → Q ys g1) → W (lcL step xs g) Q
  | [], n, g, Q, hg, _, _, q => .of rfl (q [] g rfl (fun _ h => nomatch h) hg)
  | x :: xs, n, g, Q, hg, hn, h, q => by
    rw [List.length_cons, Nat.mul_succ] at hn
    obtain ⟨o, g1, e, ⟨y, rfl, hy⟩, h1⟩ := h x List.mem_cons_self n g hg (by omega)
    rw [lcL, e]
    show W (R.bind (lcL step xs g1) _) Q
    refine .bind (w_drawG mono (P := P) (c := c) h1 (by omega) (fun z hz => h z (List.mem_cons_of_mem _ hz)) fun ys g2 hl hp h2 => .of rfl (q (y :: ys) g2 (by simp [hl]) (fun z hz => ?_) (mono _ _ _ h2 (by rw [List.length_cons, Nat.mul_succ]; omega))))
    rcases List.mem_cons.mp hz with rfl | hz
    · exact hy
    · exact hp z hz
/-- an urn of three of at most n draws -/
def Hd (n : Nat) (γ : D) : Prop := ∃ dp al t, γ = canD dp al t ∧ al ≠ [] ∧ dp.length ≤ 100 ∧ 0 ≤ t ∧ t ≤ n
theorem Hd.mono {n m : Nat} {γ : D} (h : Hd n γ) (hm : n ≤ m) : Hd m γ := by
  obtain ⟨dp, al, t, h1, h2, h3, h4, h5⟩ := h
  exact ⟨dp, al, t, h1, h2, h3, h4, by omega⟩
theorem rollDeep_ok {m : Int} (hm : 1 ≤ m) : ∀ {dp : List Int} {r : Int} {dp' : List Int}, rollDeep m dp = some (r, dp') → (0 ≤ r ∧ r < m) ∧ dp'.length ≤ dp.length
  | [], _, _, h => by cases h
  | c :: l, r, dp', h => by
    rw [rollDeep] at h
    split at h
    · cases h
      exact ⟨fmod_row hm, by simp⟩
    · obtain ⟨h1, h2⟩ := rollDeep_ok hm h
      exact ⟨h1, by rw [List.length_cons]; omega⟩
theorem roll_ok {n h : Nat} {m : Int} {γ : D} (g : Hd n γ) (hn : n < 1000000000) (h1 : 1 ≤ m) (h2 : m < 2 ^ 30) : ∃ r γ', rollS [.han h, .int m] γ = .ok (.int r) γ' ∧ Hd (n + 1) γ' ∧ 0 ≤ r ∧ r < m := by
  obtain ⟨dp, al, t, rfl, hc, hd, h0, ht⟩ := g
  have hl : (0 : Int) < al.length := by
    have : al.length ≠ 0 := fun e => hc (List.length_eq_zero_iff.mp e)
    omega
  have hR : ∃ r g', rollR dp al t m = some (r, g') ∧ Hd (n + 1) g' ∧ 0 ≤ r ∧ r < m := by
    unfold rollR
    cases hdp : rollDeep m dp with
    | some p =>
      obtain ⟨r, dp'⟩ := p
      obtain ⟨h3, h4⟩ := rollDeep_ok h1 hdp
      exact ⟨r, _, rfl, ⟨dp', al, t, rfl, hc, by omega, h0, by omega⟩, h3⟩
    | none =>
      have f0 := Int.fmod_nonneg_of_pos t hl
      have f1 := Int.fmod_lt_of_pos t hl
      have hj : ixN al.length (t.fmod al.length) = some (t.fmod al.length).toNat := by
        unfold ixN
        rw [if_pos f0, if_pos f1]
      have hjl : (t.fmod al.length).toNat < al.length := by omega
      rw [hj]
      simp only [List.getElem?_eq_getElem hjl]
      exact ⟨_, _, rfl, ⟨[], al, t + 1, rfl, hc, by simp, by omega, by omega⟩, fmod_row h1⟩
  obtain ⟨r, g', e, h3, h4⟩ := hR
  refine ⟨r, g', ?_, h3, h4⟩
  unfold rollS canD
  simp only [intsD_map]
  rw [if_pos ⟨⟨hc, h1, h2⟩, hd, h0, by omega⟩, e]
theorem w_roll {n h : Nat} {m : Int} {γ : D} {Q : D → D → Prop} (g : Hd n γ) (hn : n < 1000000000) (h1 : 1 ≤ m) (h2 : m < 2 ^ 30) (q : ∀ r γ', Hd (n + 1) γ' → 0 ≤ r → r < m → Q (.int r) γ') : W (rollS [.han h, .int m] γ) Q := by
  obtain ⟨r, γ', e, h3, h4, h5⟩ := roll_ok g hn h1 h2 (h := h)
  exact .of e (q r γ' h3 h4 h5)
theorem w_drawH {step : D → D → R (Option D)} {P : D → Prop} {c n : Nat} {g : D} {xs : List D} {Q : List D → D → Prop} (hg : Hd n g) (hn : n + c * xs.length < 1000000000) (h : ∀ x ∈ xs, ∀ m g, Hd m g → m + c < 1000000000 → W (step x g) fun o g1 => (∃ y, o = some y ∧ P y) ∧ Hd (m + c) g1)
    (q : ∀ ys g1, ys.length = xs.length → (∀ y ∈ ys, P y) → Hd (n + c * xs.length) g1 → Q ys g1) : W (lcL step xs g) Q := w_drawG (G := Hd) (fun _ _ _ h k => Hd.mono h k) hg hn h q
theorem conv_can {K : PySem.W.Frag} {dp al : List Int} (hc : al ≠ []) (hd : dp.length ≤ 100) {B H : Hp} {v : V} (s : Same B H) (h : Rep K (noG K).hv B v (.dic [(.inr "deep", .lst (dp.map .int)), (.inr "all", .lst (al.map .int)), (.inr "times", .int 0)]))
    (na : ∀ l : Addr, B l = some (.lst (dp.map V.int)) → B l = some (.lst (al.map V.int)) → False) :
    ∃ (C : Gho) (γ : D), isCan C ∧ C.K = K ∧ (∀ n, C.hv n ≠ .non) ∧ C.hv 0 = v ∧ C.rep γ H ∧ Hd 0 γ := by
  cases h with
  | dic ha hk =>
    rename_i a kvs
    cases hk with
    | cons h1 h2 =>
      cases h2 with
      | cons h3 h4 =>
        cases h4 with
        | cons h5 h6 =>
          cases h6
          cases h5
          cases h1 with
          | lst hb hr =>
            rename_i l vs
            cases h3 with
            | lst hb2 hr2 =>
              rename_i l2 vs2
              rw [reps_ints hr] at hb
              rw [reps_ints hr2] at hb2
              have n1 : a ≠ l := fun e => by rw [e, hb] at ha; cases ha
              have n2 : a ≠ l2 := fun e => by rw [e, hb2] at ha; cases ha
              have n3 : l ≠ l2 := fun e => na l hb (e ▸ hb2)
              exact ⟨canG K a l l2, canD dp al 0, ⟨K, a, l, l2, n1, n2, n3, rfl⟩, rfl, (fun _ h => nomatch h), rfl, ⟨dp, al, 0, rfl, s _ _ ha, s _ _ hb, s _ _ hb2⟩, dp, al, 0, rfl, hc, hd, by omega, by omega⟩
theorem map_erase {α β : Type} {f : α → β} : ∀ {l : List α} {i : Nat}, (l.map f).eraseIdx i = (l.eraseIdx i).map f
  | [], _ => rfl
  | _ :: _, 0 => rfl
  | x :: l, i + 1 => by
    show f x :: (l.map f).eraseIdx i = f x :: (l.eraseIdx i).map f
    rw [map_erase]
theorem cut_map {α β : Type} {f : α → β} {l : List α} {lo hi : Option Int} : cutG (l.map f) lo hi = (cutG l lo hi).map f := by
  unfold cutG
  rw [List.map_take, List.map_drop, List.length_map]
theorem cut_app {α : Type} {l : List α} {i : Int} : cutG l none (some i) ++ cutG l (some i) none = l := by
  unfold cutG
  have h0 : HT.sIx l.length 0 none = 0 := rfl
  have h1 : HT.sIx l.length l.length none = l.length := rfl
  have h2 : HT.sIx l.length l.length (some i) = HT.sIx l.length 0 (some i) := rfl
  rw [h0, h1, h2, List.drop_zero, Nat.sub_zero]
  have h3 : (l.drop (HT.sIx l.length 0 (some i))).take (l.length - HT.sIx l.length 0 (some i)) = l.drop (HT.sIx l.length 0 (some i)) := List.take_of_length_le (by rw [List.length_drop]; exact Nat.le_refl _)
  rw [h3, List.take_append_drop]
theorem cut_perm {α : Type} {l : List α} {i : Int} : (cutG l (some i) none ++ cutG l none (some i)).Perm l := by
  have h := cut_app (l := l) (i := i)
  exact List.perm_append_comm.trans (by rw [h])
end PyI

set_option maxRecDepth 100000
/-! PyI, part UD: the def that makes the urn of three; the law's def over it. -/
namespace PyI
open PySem PySem.Spec PyProof.Rows L2
def spCan (K : PySem.W.Frag) (n : Nat) (R : List Int → List Int → List Int → Prop) : Sp := fun vs H Q _ => ∃ (a : Addr) (ns : List Int), vs = [.ref a] ∧ SqL K H a (ns.map V.int) ∧ ns.length ≤ n ∧
  ∀ (d l1 l2 : Addr) (dp al : List Int) (H' : Hp), R ns dp al → d ≠ l1 → d ≠ l2 → l1 ≠ l2 → H' d = some (.dK (canV l1 l2 0)) → H' l1 = some (.lst (dp.map V.int)) → H' l2 = some (.lst (al.map V.int)) → Q (.ref d) H'
def ks3 : List Cn := [.str "deep", .str "all", .str "times"]
theorem opened_of {P : Program} {w : World} {K : PySem.W.Frag} {mg : Str → Option Value} {base : Heap} {st x1 : Stmt} {a : Addr} {fd : FuncData} {N : List Str} {p f : Str} {k n : Nat} {e1 ea eb : E} {keys : List (Option Expr)} {xs : List Expr} {pd pr : Pos} (R : List Int → List Int → List Int → Prop)
    (F : Fun K f f st a fd) (FS : FnScope N [p] (defScope st)) (hd : defBody st = [x1, .Return (some (.Dict keys xs pd)) pr]) (h1 : mS N (defScope st) (.set 1 e1) x1 = true) (hk : mKs ks3 keys = true) (he : mEs N (defScope st) [ea, eb, .c (.int 0)] xs = true) (hkl : keys.length = xs.length)
    (ka : kd ea = .fresh) (kb : kd eb = .fresh) (hN : 1 ≤ N.length) (hbt : ∀ x ∈ biNames, mg x = none) (al : allS (Knows isNo P w K mg base k) (Names K mg (noG K)) (.set 1 e1) ∧ allEs (Knows isNo P w K mg base k) (Names K mg (noG K)) [ea, eb, .c (.int 0)])
    (sem : ∀ ns : List Int, ns.length ≤ n → ∃ (ρ1 : Rho) (dp al : List Int), R ns dp al ∧ exec (.set 1 e1) (.val (.scr ns) :: List.replicate (N.length - 1) .un) .non = .nx ρ1 .non ∧ ev ea ρ1 .non = .ok (.lst (dp.map .int)) .non ∧ ev eb ρ1 .non = .ok (.lst (al.map .int)) .non) :
    FnG P w K mg base (k + 1) a fd [p] (spCan K n R) := by
  refine fnG_of F FS ?_ ?_
  · rintro vs H Q E ⟨_, _, rfl, _⟩
    rfl
  · rintro cdv A outer s H vs Q E hg hr ⟨a0, ns, rfl, hS, hn, hq⟩
    have ok0 : XOk isNo (cxOf (L2.CX P w) P w K mg base N f (defScope st) a cdv A outer s H E) N (defScope st) k (noG K) :=
      { hN := rfl, nd := FS.nd, sc := fun x q h => ⟨q, h, .inl rfl⟩, calm := fun _ => rfl, nr := fun _ => (fun _ _ _ _ h => h), er := fun _ _ _ _ h => h.elim, gd := hg, room := fun _ => hr, unt := room_unt hr, hK := rfl, hG := ⟨K, rfl⟩, hn := (fun _ z => nomatch z), bt := hbt, fn := fun _ _ => rfl }
    have tk : Takes (cxOf (L2.CX P w) P w K mg base N f (defScope st) a cdv A outer s H E) (fun cls d _ H => E cls d H) := takes_of rfl rfl rfl rfl
    have g1 := sS (B0 := H) (H0 := H) (.set 1 e1) ok0 tk ⟨passes_of rfl, rfl, rfl⟩ h1 al.1
    obtain ⟨m1, m2⟩ := mKs_all hk
    have hk3 : keys.length = 3 := m1.symm
    have g2 := pe_disp (pos := pd) (sP (H0 := H) [ea, eb, .c (.int 0)] ok0 tk hk he hkl al.2) m2 hkl (fun z => by rw [z] at hk3; cases hk3) (by omega)
    rw [hd]
    refine ⟨_, pss_cons g1 (pss_one (ps_ret g2)), ?_⟩
    obtain ⟨ρ1, dp, als, hR, s1, s2, s3⟩ := sem ns hn
    have sH : Same H H := Same.refl _
    have S0 : St (noG K) H H (L2.start N [.ref a0]) H ([D.scr ns].map .val ++ List.replicate (N.length - 1) .un) .non := start_ok (by omega) sH (fun _ h => h.elim) trivial rfl (.cons (.scr hS) .nil)
    refine ⟨H, _, .non, S0, Ext.refl sH, ?_⟩
    rw [show ([D.scr ns].map Sl.val ++ List.replicate (N.length - 1) Sl.un) = .val (.scr ns) :: List.replicate (N.length - 1) .un from rfl, s1]
    intro B1 σ1 H1 S1 x1' mm q hp
    have nU : ∀ a, ¬ (noG K).U a := fun a h => h
    have S1q := S1.ext (γ' := .non) (Ext.alloc (o := .dK []) S1.sub hp) trivial
    have q0 : upd H1 q (.dK []) q = some (.dK []) := upd_same
    generalize upd H1 q (.dK []) = Hq at S1q q0 ⊢
    refine ⟨B1, ρ1, .non, S1q, ?_⟩
    rw [ev]
    intro v2 B2 H2 x2 _ r2
    have r2 : RepF (noG K) Hq B2 H2 v2 (Cn.d (.str "deep")) := r2
    obtain rfl := cn_flat r2
    have S2 := S1q.ext (γ' := .non) x2 trivial
    refine ⟨B2, ρ1, .non, S2, ?_⟩
    rw [s2, ka]
    intro v3 B3 H3 x3 _ r3
    obtain ⟨l1, us1, rfl, n3, _, o3, r3⟩ := r3
    have S3 := S2.ext (γ' := .non) x3 trivial
    refine ⟨B3, ρ1, .non, S3, ?_⟩
    rw [ev]
    intro v4 B4 H4 x4 _ r4
    have r4 : RepF (noG K) H3 B4 H4 v4 (Cn.d (.str "all")) := r4
    obtain rfl := cn_flat r4
    have S4 := S3.ext (γ' := .non) x4 trivial
    refine ⟨B4, ρ1, .non, S4, ?_⟩
    rw [s3, kb]
    intro v5 B5 H5 x5 _ r5
    obtain ⟨l2, us2, rfl, n5, _, o5, r5⟩ := r5
    have S5 := S4.ext (γ' := .non) x5 trivial
    refine ⟨B5, ρ1, .non, S5, ?_⟩
    rw [ev]
    intro v6 B6 H6 x6 _ r6
    have r6 : RepF (noG K) H5 B6 H6 v6 (Cn.d (.str "times")) := r6
    obtain rfl := cn_flat r6
    have S6 := S5.ext (γ' := .non) x6 trivial
    refine ⟨B6, ρ1, .non, S6, ?_⟩
    rw [ev]
    intro v7 B7 H7 x7 _ r7
    have r7 : RepF (noG K) H6 B7 H7 v7 (Cn.d (.int 0)) := r7
    obtain rfl := cn_flat r7
    have q2 := x2.keep _ _ q0 (nU _)
    have q3 := x3.keep _ _ q2 (nU _)
    have q4 := x4.keep _ _ q3 (nU _)
    have q5 := x5.keep _ _ q4 (nU _)
    have q6 := x6.keep _ _ q5 (nU _)
    have q7 := x7.keep _ _ q6 (nU _)
    have a4 := x4.keep _ _ o3 (nU _)
    have a7 := x7.keep _ _ (x6.keep _ _ (x5.keep _ _ a4 (nU _)) (nU _)) (nU _)
    have b7 := x7.keep _ _ (x6.keep _ _ o5 (nU _)) (nU _)
    have d1 : q ≠ l1 := fun e => by rw [e, n3] at q2; cases q2
    have d2 : q ≠ l2 := fun e => by rw [e, n5] at q4; cases q4
    have d3 : l1 ≠ l2 := fun e => by rw [e, n5] at a4; cases a4
    refine ⟨q7, [(.inr "deep", .ref l1), (.inr "all", .ref l2), (.inr "times", .int 0)], rfl, (show 3 ≤ 15 by decide), ?_⟩
    refine hq q l1 l2 dp als _ hR d1 d2 d3 upd_same ?_ ?_
    · rw [upd_ne (Ne.symm d1), a7, reps_ints r3]
    · rw [upd_ne (Ne.symm d2), b7, reps_ints r5]
theorem can_ne {C : Gho} (h : isCan C) : ∀ L c a od, ¬ C.er L c a od := by
  obtain ⟨_, _, _, _, _, _, _, rfl⟩ := h
  exact fun _ _ _ _ z => z
/-- the law's def, its first statement the call of a def that makes an urn of three -/
theorem law_of3 {P : Program} {w : World} {K : PySem.W.Frag} {mg : Str → Option Value} {base : Heap} {st : Stmt} {a a1 : Addr} {fd fd1 : FuncData} {N : List Str} {p p1 f y z : Str} {k n : Nat} {rest : List S} {xs : List Stmt} {R : List Int → List Int → List Int → Prop} {q1 q2 q3 q4 q5 : Pos}
    (F : Fun K "law" "law" st a fd) (FS : FnScope N [p] (defScope st)) (hd : defBody st = .Assign [.Name z q1] (.Call (.Name f q2) [.Name y q3] [] q4) q5 :: xs) (hz1 : N[1]? = some z) (hz2 : locB (defScope st) z = true) (hy : nameB N (defScope st) 0 y = true) (hf : glB (defScope st) f = true) (hb : mSs N (defScope st) rest xs = true) (hN : 2 ≤ N.length) (hbt : ∀ x ∈ biNames, mg x = none)
    (F1 : FnG P w K mg base k a1 fd1 [p1] (spCan K n R)) (hm : mg f = some (.ref a1)) (hkp : PySem.W.keepIn K (.ref a1) = true) (hbd : Binds K fd1 [p1] []) (al : ∀ C : Gho, isCan C → C.K = K → allSs (Knows isCan P w K mg base k) (Names K mg C) rest)
    (conv : ∀ ns dp al : List Int, ns.length ≤ n → R ns dp al → ∃ g', execs rest (.un :: .val (.han 0) :: List.replicate (N.length - 2) .un) (canD dp al 0) = .rt (.bl true) g') :
    FnG P w K mg base (k + 1) a fd [p] (spLaw K n) := by
  refine fnG_of F FS ?_ ?_
  · rintro vs H Q E ⟨_, _, rfl, _⟩
    rfl
  · rintro cdv A outer s H vs Q E hg hr ⟨a0, ns, rfl, hS, hn, hq⟩
    have ok0 : XOk isNo (cxOf (L2.CX P w) P w K mg base N "law" (defScope st) a cdv A outer s H E) N (defScope st) k (noG K) :=
      { hN := rfl, nd := FS.nd, sc := fun x q h => ⟨q, h, .inl rfl⟩, calm := fun _ => rfl, nr := fun _ => (fun _ _ _ _ h => h), er := fun _ _ _ _ h => h.elim, gd := hg, room := fun _ => hr, unt := room_unt hr, hK := rfl, hG := ⟨K, rfl⟩, hn := (fun _ z => nomatch z), bt := hbt, fn := fun _ _ => rfl }
    have tk : Takes (cxOf (L2.CX P w) P w K mg base N "law" (defScope st) a cdv A outer s H E) (fun cls d _ H => E cls d H) := takes_of rfl rfl rfl rfl
    have pe : PE (cxOf (L2.CX P w) P w K mg base N "law" (defScope st) a cdv A outer s H E) (.Call (.Name f q2) [.Name y q3] [] q4) (fun σ H1 Q1 => ∃ v, σ[0]? = some (some v) ∧ spCan K n R [v] H1 Q1 fun cls od H' => E cls od H') := by
      obtain ⟨g1, g2, _⟩ := ok0.gl hf
      refine ⟨fun pins s1 σ H1 Q1 I h => ?_⟩
      obtain ⟨v, hv, hs⟩ := h
      have ha : PA (cxOf (L2.CX P w) P w K mg base N "law" (defScope st) a cdv A outer s H E) [.Name y q3] (tCons (tVar 0) tNil) := pa_cons (ok0.name hy) pa_nil rfl
      refine wpAny_Call_Name_kw (ld_glob I g1 hm ?_ g2)
      refine PySem.W.callWith_K (h₀ := base) I.ok.mod.kin hkp (thn (ha.run q4 pins s1 σ H1 (fun us H2 => spCan K n R us H2 Q1 fun cls od H' => E cls od H') I ⟨v, hv, hs⟩) ?_) (starEach_cons rfl) rfl
      intro us s2 h2
      obtain ⟨vs, H2, I2, r, q⟩ := h2
      exact ⟨I2.kIn, runG F1 hg hr hbd tk I2 r q⟩
    have h2 : PSs (cxOf (L2.CX P w) P w K mg base N "law" (defScope st) a cdv A outer s H E) xs (fun Dn σ H1 => ∃ (C : Gho) (B0 H0 : Hp), isCan C ∧ C.K = K ∧ (∀ n, C.hv n ≠ .non) ∧ tSs C mg B0 H0 (fun cls d _ H => E cls d H) rest Dn σ H1) := by
      refine ⟨fun pins s1 σ H1 Dn I h => ?_⟩
      obtain ⟨C, B0, H0, hG, hK, hn', h⟩ := h
      have ok : XOk isCan (cxOf (L2.CX P w) P w K mg base N "law" (defScope st) a cdv A outer s H E) N (defScope st) k C :=
        { hN := rfl, nd := FS.nd, sc := fun x q h => ⟨q, h, .inl rfl⟩, calm := fun _ => rfl, nr := fun _ => can_ne hG, er := fun L c a od h => (can_ne hG L c a od h).elim, gd := hg, room := fun _ => hr, unt := room_unt hr, hK := hK, hG := hG, hn := hn', bt := hbt, fn := fun _ _ => rfl }
      exact (sSs rest ok tk ⟨passes_of rfl, rfl, rfl⟩ hb (al C hG hK)).run pins s1 σ H1 Dn I h
    rw [hd]
    refine ⟨_, pss_cons (ps_set FS.nd hz1 (ok0.loc hz2) pe (sw_plain rfl) (ok0.locF hz2)) h2, ?_⟩
    have ln : (L2.start N [V.ref a0]).length = N.length := (start_ok (C := noG K) (γ := .non) (n := 1) (ds := [D.scr ns]) (by omega) (Same.refl H) (fun _ h => h.elim) trivial rfl (.cons (.scr hS) .nil)).len.trans (by simp; omega)
    refine ⟨.ref a0, start_get rfl, a0, ns, rfl, hS, hn, fun d l1 l2 dp als H' hR n1 n2 n3 o1 o2 o3 => ?_⟩
    refine ⟨canG K d l1 l2, (fun _ => none), H', ⟨K, d, l1, l2, n1, n2, n3, rfl⟩, rfl, (fun _ h => nomatch h), (fun _ => none), (.un :: .val (.han 0) :: List.replicate (N.length - 2) .un), canD dp als 0, ?_, Ext.refl (fun a o h => nomatch (show (none : Option HO) = some o from h)), ?_⟩
    · have only : ∀ (i : Nat) (s : Sl), (Sl.un :: Sl.val (.han 0) :: List.replicate (N.length - 2) Sl.un)[i]? = some s → (i = 1 ∧ s = .val (.han 0)) ∨ s = .un := by
        intro i s h
        match i, h with
        | 0, h => cases h; exact .inr rfl
        | 1, h => cases h; exact .inl ⟨rfl, rfl⟩
        | i + 2, h => exact .inr (List.eq_of_mem_replicate (List.mem_of_getElem? (show (List.replicate (N.length - 2) Sl.un)[i]? = some s from h)))
      exact {
        sub := fun a o h => nomatch (show (none : Option HO) = some o from h)
        uB := fun _ _ => rfl
        gh := ⟨dp, als, 0, rfl, o1, o2, o3⟩
        len := by rw [List.length_set, ln]; simp; omega
        val := fun i d' h => by
          rcases only i _ h with ⟨rfl, e⟩ | e
          · cases e
            exact ⟨.ref d, by rw [List.getElem?_set_self (by rw [ln]; omega)], .han 0⟩
          · cases e
        ol := fun i d' h => by
          rcases only i _ h with ⟨_, e⟩ | e <;> cases e
        od := fun i d' h => by
          rcases only i _ h with ⟨_, e⟩ | e <;> cases e
        er := fun i L c fs h => by
          rcases only i _ h with ⟨_, e⟩ | e <;> cases e
        apart := fun i j s t l h1 h2 h3 h4 h5 h6 => by
          rcases only i _ h1 with ⟨_, e⟩ | e <;> (subst e; cases h3) }
    · obtain ⟨g', c6⟩ := conv ns dp als hn hR
      rw [c6]
      intro u B2 H2 x2 g2 r2
      cases r2
      exact hq H2
end PyI

set_option maxRecDepth 100000
/-! PyI, part QA: a list of lists of its own. -/
namespace PyI
open PySem PySem.Spec PyProof.Rows L2
section
variable {G : Gho → Prop} {X : Cx} {N : List Str} {sc : Scope} {k : Nat} {C : Gho} {W : WX} {H0 : Hp} {pos : Pos}
theorem ite_t {p q : Prop} (h : p) : if true = true then p else q := by rw [if_pos rfl]; exact h
theorem nd1 {a : Addr} : ([a] : List Addr).Nodup := List.nodup_cons.mpr ⟨(fun h => nomatch h), List.nodup_nil⟩
/-- [[] for x in it]: a new list of new lists -/
def tQs (C : Gho) (mg : Str → Option Value) (H0 : Hp) (W : WX) (it : I) : TE := fun σ H Q => ∃ B ρ γ, St C H0 B σ H ρ γ ∧ Fin C mg W B σ H (evI it ρ γ) fun xs g => xs.length ≤ sizeLine ∧
  ∀ q refs B' H', Ext C.U B H B' H' → C.rep g H' → refs.length = xs.length → (q :: refs).Nodup → (∀ r ∈ q :: refs, H r = none ∧ B' r = none ∧ ¬ C.U r) → (∀ r ∈ refs, H' r = some (.lst [])) → H' q = some (.lst (refs.map V.ref)) → Q (.ref q) H'
theorem c_qs (ok : XOk G X N sc k C) (hcm : calmB sc = true) {j : Nat} {it : I} {tg' it' : Expr} {scope : Scope} {p1 : Pos} (hb : blkC N sc scope (blkN N (.one j)) = true) (ht : mTg N scope (.one j) tg' = true) (hs : notSet it' = true)
    (hi : PI X tg' it' (tI C X.mg H0 W it)) : PE X (.ListComp (.List [] p1) [⟨tg', it', [], 0⟩] scope pos) (tQs C X.mg H0 W it) := by
  refine ⟨fun pins s σ H Q I hq => ?_⟩
  refine (pe_lc (g := gTg X.K (.one j)) (tt := tYes) (te := tLst tNil) (ok.calm hcm) ok.nd hi (lc_blk ok hb) (fun s H D cl fp => g_tg (ok.blk hcm scope s H D cl fp) ht) (fun _ _ _ _ _ => pts_nil) (fun s H D cl fp => pe_lst pa_nil) (lc_fold hs)).run pins s σ H Q I ?_
  rw [blk_own]
  obtain ⟨B, ρ, γ, S, hq⟩ := hq
  refine ⟨B, ρ, γ, S, hq.imp fun xs g h1 => ?_⟩
  obtain ⟨hsz, hQ⟩ := h1
  intro J B1 H1 src x1 rg1 ksrc hsrc drv dl hD
  have hDU : ¬ C.U dl := fun u => C.has _ _ _ rg1 u hD
  have hHD : H dl = none := x1.none_before hD
  let Pv : Nat → Hp → Prop := fun i Hc => ∃ (Bc : Hp) (refs : List Addr), refs.length = i ∧ (dl :: refs).Nodup ∧ (∀ r ∈ dl :: refs, H r = none ∧ Bc r = none ∧ ¬ C.U r) ∧ (∀ r ∈ refs, Hc r = some (.lst [])) ∧ Hc dl = some (.lst (refs.map V.ref)) ∧
    Ext C.U B H Bc Hc ∧ Same B1 Bc ∧ C.rep g Hc ∧ ∀ a ∈ src, Hc a = H1 a
  refine ⟨fun i m Hc => m = xs.length - i ∧ i ≤ xs.length ∧ Pv i Hc, ⟨xs.length, rfl, Nat.zero_le _, B1, [], rfl, nd1, fun r hr => ?_, (fun _ h => nomatch h), upd_same, x1.poke hHD (x1.s.free hD), Same.refl _, C.stayP rg1 hDU, fun a ha => upd_ne fun e => (hsrc a ha).1 (by rw [e]; exact hD)⟩, ?_⟩
  · rw [List.mem_singleton] at hr
    subst hr
    exact ⟨hHD, x1.s.free hD, hDU⟩
  rintro i m Hc ⟨rfl, hi, Bc, refs, e1, e2, e3, e4, e5, e7, e8, e9, e10⟩
  by_cases hlt : i < xs.length
  · refine .inr ⟨drv.go i Bc Hc e8 e7.s e10 hlt, Pv (i + 1), fun H' p => ⟨xs.length - (i + 1), by omega, rfl, hlt, p⟩, fun x H' hy => ?_⟩
    obtain ⟨B', d, hd, xy, stay, rd⟩ := drv.yld i Bc Hc x H' e8 e7.s e10 hlt hy
    have gy : C.rep g H' := C.stay _ _ _ e9 fun a hu => stay a (C.has _ _ _ e9 hu)
    have xy' := e7.trans xy
    have eD : H' dl = some (.lst (refs.map V.ref)) := by rw [stay dl (by rw [e5]; exact fun z => nomatch z)]; exact e5
    refine ⟨wipe_same (fun j' hj => ?_) ?_, ?_⟩
    · have hjj : j ≠ j' := fun e => hj (by subst e; exact List.mem_singleton.mpr rfl)
      rw [set_other hjj, wipe_get, if_neg fun q => hj q.1]
    · rw [List.length_set, wipe_length]
    refine ite_t (q := Pv (i + 1) H') ?_
    refine ⟨Nat.zero_le _, fun p hp => ⟨refs.map V.ref, ?_, by rw [List.length_map]; omega, ?_⟩⟩
    · rw [upd_ne (ne_of_none eD hp)]
      exact eD
    have pdl : p ≠ dl := fun e => by rw [e, eD] at hp; cases hp
    have pr : ∀ r ∈ refs, H' r = some (.lst []) := fun r hr => xy.keep _ _ (e4 r hr) (e3 r (List.mem_cons_of_mem _ hr)).2.2
    have pn : p ∉ refs := fun h => by rw [pr p h] at hp; cases hp
    have bD : B' dl = none := xy.stillNone (e3 dl List.mem_cons_self).2.1 (by rw [e5]; exact fun z => nomatch z)
    refine ⟨B', refs ++ [p], by rw [List.length_append, e1]; rfl, ?_, ?_, ?_, ?_, ?_, e8.trans xy.b, C.stayP (C.stayE gy hp) hDU, ?_⟩
    · rw [List.nodup_cons] at e2 ⊢
      refine ⟨fun h => ?_, List.nodup_append.mpr ⟨e2.2, nd1, fun a ha b hb e => ?_⟩⟩
      · rcases List.mem_append.mp h with h | h
        · exact e2.1 h
        · exact pdl (List.mem_singleton.mp h).symm
      · rw [List.mem_singleton] at hb
        subst hb e
        exact pn ha
    · intro r hr
      rcases List.mem_cons.mp hr with rfl | hr
      · exact ⟨hHD, bD, hDU⟩
      rcases List.mem_append.mp hr with hr | hr
      · have := e3 r (List.mem_cons_of_mem _ hr)
        exact ⟨this.1, xy.stillNone this.2.1 (by rw [e4 r hr]; exact fun z => nomatch z), this.2.2⟩
      · rw [List.mem_singleton] at hr
        subst hr
        exact ⟨xy'.none_before hp, xy'.s.free hp, fun u => C.has _ _ _ gy u hp⟩
    · intro r hr
      rcases List.mem_append.mp hr with hr | hr
      · have a1 : r ≠ dl := fun e => by rw [List.nodup_cons] at e2; exact e2.1 (e ▸ hr)
        have a2 : r ≠ p := fun e => pn (e ▸ hr)
        rw [upd_ne a1, upd_ne a2]
        exact pr r hr
      · rw [List.mem_singleton] at hr
        subst hr
        rw [upd_ne pdl, upd_same]
    · rw [upd_same, List.map_append]
      rfl
    · exact (xy'.trans (Ext.alloc xy'.s hp)).poke hHD bD
    · intro a ha
      obtain ⟨n1, n2⟩ := hsrc a ha
      have n3 : Hc a ≠ none := by rw [e10 a ha]; exact n1
      have n4 : H' a = H1 a := by rw [stay a n3, e10 a ha]
      rw [upd_ne fun e => n1 (by rw [e]; exact hD), upd_ne fun e => n1 (by rw [← n4, e]; exact hp)]
      exact n4
  · obtain rfl : i = xs.length := Nat.le_antisymm hi (Nat.le_of_not_lt hlt)
    exact .inl ⟨drv.stop Bc Hc e8 e7.s e10, hQ dl refs Bc Hc e7 e9 e1 e2 e3 e4 e5⟩
end
end PyI

set_option maxRecDepth 100000
/-! PyI, part QB: a list of lists of its own as what is shared. -/
namespace PyI
open PySem PySem.Spec PyProof.Rows L2

theorem deQs_map : ∀ qs : List (List Int), deQs (qs.map fun ns => .lst (ns.map .int)) = some qs
  | [] => rfl
  | q :: qs => by rw [List.map_cons, deQs, intsD_map, deQs_map qs]; rfl
def qneS : Sem := fun ds g => match ds, g with
  | [.han _, .int k], .lst xs => match deQs xs with
    | some qs => match atI qs k with
      | some ns => .ok (.bl (decide (ns ≠ []))) g
      | none => .no
    | none => .no
  | _, _ => .no
def qappS : Sem := fun ds g => match ds, g with
  | [.han _, .int k, .int j], .lst xs => match deQs xs with
    | some qs => match ixN qs.length k with
      | some i => match qs[i]? with
        | some ns => if ns.length < sizeLine then .ok .non (qsD (qs.set i (ns ++ [j]))) else .no
        | none => .no
      | none => .no
    | none => .no
  | _, _ => .no
def qpopS : Sem := fun ds g => match ds, g with
  | [.han _, .int k], .lst xs => match deQs xs with
    | some qs => match ixN qs.length k with
      | some i => match qs[i]? with
        | some (n :: ns) => .ok (.int n) (qsD (qs.set i ns))
        | _ => .no
      | none => .no
    | none => .no
  | _, _ => .no
def qgetS : Sem := fun ds g => match ds, g with
  | [.han _, .int k], .lst xs => match deQs xs with
    | some qs => match ixN qs.length k with
      | some i => match qs[i]? with
        | some (n :: _) => .ok (.int n) g
        | _ => .no
      | none => .no
    | none => .no
  | _, _ => .no
def QsAt (refs : List Addr) (qs : List (List Int)) (H : Hp) : Prop := qs.length = refs.length ∧ ∀ (i : Nat) (r : Addr) (ns : List Int), refs[i]? = some r → qs[i]? = some ns → H r = some (.lst (ns.map V.int))
def quC (C : Gho) (γ0 : D) (q : Addr) (refs : List Addr) : Gho where
  K := C.K
  hv := fun _ => .ref q
  U := fun a => C.U a ∨ a ∈ q :: refs
  rep := fun γ H => C.rep γ0 H ∧ H q = some (.lst (refs.map V.ref)) ∧ ∃ qs, γ = qsD qs ∧ QsAt refs qs H
  has := fun γ H a h u => by
    obtain ⟨h1, h2, qs, rfl, h3, h4⟩ := h
    rcases u with u | u
    · exact C.has _ _ _ h1 u
    rcases List.mem_cons.mp u with rfl | u
    · rw [h2]; exact fun z => nomatch z
    · obtain ⟨i, hi⟩ := List.getElem?_of_mem u
      have il : i < qs.length := by rw [h3]; exact (List.getElem?_eq_some_iff.mp hi).1
      rw [h4 i a _ hi (List.getElem?_eq_getElem il)]; exact fun z => nomatch z
  stay := fun γ H H' h e => by
    obtain ⟨h1, h2, qs, rfl, h3, h4⟩ := h
    refine ⟨C.stay _ _ _ h1 fun a ha => e a (.inl ha), by rw [e q (.inr List.mem_cons_self)]; exact h2, qs, rfl, h3, fun i r ns a1 a2 => ?_⟩
    rw [e r (.inr (List.mem_cons_of_mem _ (List.mem_of_getElem? a1)))]
    exact h4 i r ns a1 a2
def isQu (C' : Gho) : Prop := ∃ (C : Gho) (γ0 : D) (q : Addr) (refs : List Addr), (q :: refs).Nodup ∧ (∀ r ∈ q :: refs, ¬ C.U r) ∧ C' = quC C γ0 q refs

theorem Ext.pokeU {U : Addr → Prop} {B H : Hp} (s : Same B H) {p : Addr} {o : HO} (hu : U p) (hb : B p = none) : Ext U B H B (upd H p o) where
  b := Same.refl _
  s := fun a u h => by rw [upd_ne (ne_of_none h hb)]; exact s a u h
  new := fun _ _ h => .inl h
  keep := fun a u h n => by rw [upd_ne fun e => n (by rw [e]; exact hu)]; exact h
  uk := fun a _ h => by
    by_cases e : a = p
    · subst e; rw [upd_same]; exact fun z => nomatch z
    · rw [upd_ne e]; exact h
theorem qs_set {refs : List Addr} {qs : List (List Int)} {H : Hp} {i : Nat} {r : Addr} {ns : List Int} (nd : refs.Nodup) (h : QsAt refs qs H) (hr : refs[i]? = some r) : QsAt refs (qs.set i ns) (upd H r (.lst (ns.map V.int))) := by
  obtain ⟨h1, h2⟩ := h
  refine ⟨by rw [List.length_set]; exact h1, fun j r' ms a1 a2 => ?_⟩
  by_cases e : i = j
  · subst e
    have il : i < qs.length := by rw [h1]; exact (List.getElem?_eq_some_iff.mp hr).1
    rw [List.getElem?_set_self il] at a2
    cases a2
    rw [hr] at a1
    cases a1
    exact upd_same
  · rw [List.getElem?_set_ne e] at a2
    have ne : r' ≠ r := fun z => by
      subst z
      exact e ((List.getElem?_inj (List.getElem?_eq_some_iff.mp hr).1 nd).mp (hr.trans a1.symm))
    rw [upd_ne ne]
    exact h2 j r' ms a1 a2
theorem atI_of {α : Type} {xs : List α} {k : Int} {i : Nat} {x : α} (h : ixN xs.length k = some i) (e : xs[i]? = some x) : atI xs k = some x := by
  unfold atI
  rw [h]; exact e
theorem ns_ne (ns : List Int) : cmpF .ne (.lst (ns.map .int)) (.lst []) = some (decide (ns ≠ [])) := by
  cases ns with
  | nil => rfl
  | cons n ns => rfl

section
variable {X : Cx} {N : List Str} {sc : Scope} {k : Nat} {C : Gho} {W : WX} {H0 : Hp} {pos p0 p2 p3 : Pos}
theorem noB2 {a b : E} (h : noB (kds [a, b]) = true) : (kd a).le .clean = true ∧ (kd b).le .clean = true := by
  simp only [kds] at h
  revert h
  cases kd a <;> cases kd b <;> decide
theorem noB3 {a b c : E} (h : noB (kds [a, b, c]) = true) : (kd a).le .clean = true ∧ (kd b).le .clean = true ∧ (kd c).le .clean = true := by
  simp only [kds] at h
  revert h
  cases kd a <;> cases kd b <;> cases kd c <;> decide
theorem smE_ev {e : E} (h : smE e = true) (ρ : Rho) (g : D) : ev e ρ g = .no ∨ ∃ d, ev e ρ g = .ok d g := by
  have o : ∀ (x : Option D), opt g x = R.no ∨ ∃ d, opt g x = .ok d g := fun x => by
    cases x with
    | none => exact .inl rfl
    | some d => exact .inr ⟨d, rfl⟩
  have l : ∀ (x : Option D), (opt g x).bind (fun d g1 => (R.ok [d] g1).bind fun ds g2 => opt g2 (biF .len ds)) = .no ∨ ∃ d, (opt g x).bind (fun d g1 => (R.ok [d] g1).bind fun ds g2 => opt g2 (biF .len ds)) = .ok d g := fun x => by
    cases x with
    | none => exact .inl rfl
    | some d => exact o _
  unfold smE at h
  split at h
  · exact .inr ⟨_, by rw [ev]⟩
  · rw [ev]; exact o _
  · rw [ev]; exact o _
  · simp only [ev, evs]
    cases getV ρ _ with
    | none => exact .inl rfl
    | some d => exact o _
  · simp only [ev, evs]
    cases getB ρ _ with
    | none => exact .inl rfl
    | some d => exact o _
  · simp only [ev]
    cases getV ρ _ with
    | none => exact .inl rfl
    | some d => exact o _
  · cases h
theorem ev2 {B H : Hp} {σ : L2.St} {ρ : Rho} {γ : D} {mg : Str → Option Value} {f : Str} {m : Sem} {a b : E} {F : D → D → Prop} (h : Fin C mg W B σ H (ev (.call f m [a, b]) ρ γ) F) :
    Fin C mg W B σ H (ev a ρ γ) fun d g => Fin C mg W B σ H (ev b ρ g) fun e g2 => Fin C mg W B σ H (m [d, e] g2) F := by
  simp only [ev, evs] at h
  exact h.bind.bind.imp fun d g h1 => h1.bind.bind.imp fun e g2 h2 => h2
theorem ev3 {B H : Hp} {σ : L2.St} {ρ : Rho} {γ : D} {mg : Str → Option Value} {f : Str} {m : Sem} {a b c : E} {F : D → D → Prop} (h : Fin C mg W B σ H (ev (.call f m [a, b, c]) ρ γ) F) :
    Fin C mg W B σ H (ev a ρ γ) fun d g => Fin C mg W B σ H (ev b ρ g) fun e g2 => Fin C mg W B σ H (ev c ρ g2) fun z g3 => Fin C mg W B σ H (m [d, e, z] g3) F := by
  simp only [ev, evs] at h
  exact h.bind.bind.imp fun d g h1 => h1.bind.bind.imp fun e g2 h2 => h2.bind.bind.imp fun z g3 h3 => h3
theorem qs_at {refs : List Addr} {qs : List (List Int)} {H : Hp} {i : Nat} {k : Int} {ns : List Int} (h : QsAt refs qs H) (e : ixN qs.length k = some i) (hi : qs[i]? = some ns) : ∃ r, refs[i]? = some r ∧ atI (refs.map V.ref) k = some (.ref r) ∧ H r = some (.lst (ns.map V.int)) := by
  obtain ⟨h1, h2⟩ := h
  have il : i < refs.length := by rw [← h1]; exact (List.getElem?_eq_some_iff.mp hi).1
  have hr := List.getElem?_eq_getElem il
  refine ⟨refs[i], hr, atI_of (i := i) (by rw [List.length_map, ← h1]; exact e) (by rw [List.getElem?_map, hr]; rfl), h2 i _ ns hr hi⟩
theorem atI_ix {α : Type} {xs : List α} {k : Int} {x : α} (h : atI xs k = some x) : ∃ i, ixN xs.length k = some i ∧ xs[i]? = some x := by
  unfold atI at h
  cases e : ixN xs.length k with
  | none => rw [e] at h; cases h
  | some i => rw [e] at h; exact ⟨i, rfl, h⟩
theorem qsD_de {xs : List D} {qs qs' : List (List Int)} (e : D.lst xs = qsD qs) (h : deQs xs = some qs') : qs = qs' := by
  cases e
  rw [deQs_map] at h
  cases h; rfl
theorem qne_core {B H : Hp} {σ : L2.St} {ρ : Rho} {γ : D} {a b : E} {f : Str} {F : D → D → Prop} {Q : VK} (hQ : isQu C) (ka : (kd a).le .clean = true) (kb : (kd b).le .clean = true) (S : St C H0 B σ H ρ γ) (hq : Fin C X.mg W B σ H (ev (.call f qneS [a, b]) ρ γ) F)
    (go : ∀ b g B' H', Ext C.U B H B' H' → C.rep g H' → F (.bl b) g → Q (.bl b) H') : tOp (rCmp (noG C.K) .ne) (tOp (rIxL C.K) (tE C X.mg H0 W a) (tE C X.mg H0 W b)) (tLst tNil) σ H Q := by
  obtain ⟨C0, γ0, q, refs, nd, nU, rfl⟩ := hQ
  refine ⟨B, ρ, γ, S, (ev2 hq).imp fun d g h1 => Done.le (k := .clean) ka fun v B1 H1 x1 g1 r1 => ?_⟩
  have S1 := S.ext x1 g1
  refine ⟨B1, ρ, g, S1, (h1.ext x1).imp fun e g2 h2 => Done.le (k := .clean) kb fun w B2 H2 x2 g2' r2 => ?_⟩
  unfold qneS at h2
  split at h2
  · rename_i n k xs heq
    cases heq
    split at h2
    · rename_i qs hde
      split at h2
      · rename_i ns hns
        cases r1
        cases r2
        obtain ⟨_, hqx, qs', e1, e2⟩ := id g2'
        cases qsD_de e1 hde
        obtain ⟨i, hi, hi2⟩ := atI_ix hns
        obtain ⟨r, hr, hr2, hr3⟩ := qs_at e2 hi hi2
        refine ⟨q, _, k, .ref r, rfl, rfl, .inl (.inl hqx), hr2, Nat.zero_le _, fun p hp => ?_⟩
        refine ⟨_, .non, .lst (ns.map .int), .lst [], _, Same.refl _, trivial, .inl (.lst (by rw [upd_ne fun e => by rw [e, hp] at hr3; cases hr3]; exact hr3) (Reps.ofInts ns)), .inl (.lst upd_same .nil), ns_ne ns, ?_⟩
        exact go _ _ _ _ (x1.trans (x2.trans (Ext.alloc x2.s hp))) ((quC C0 γ0 q refs).stayE g2' hp) h2
      · exact h2.elim
    · exact h2.elim
  · exact h2.elim
theorem kn_qne {P : Program} {w : World} {K : PySem.W.Frag} {mg : Str → Option Value} {base : Heap} {k0 : Nat} : KnowsX isQu P w K mg base k0 ".qne" qneS := by
  intro X N sc C W H0 x xs es ok hcm tk hP hw hK hmg hbase hx hsm hm hB hz
  unfold mX at hx
  rw [if_neg (by decide +kernel), if_neg (by decide +kernel), if_pos rfl] at hx
  split at hx
  · rename_i qx kx p0 p1 pos
    split at hx
    · rename_i hp
      cases hx
      match es, hz, hB with
      | [a, b], hz, hB =>
        obtain ⟨ha, hb, _⟩ := hz
        obtain ⟨ka, kb⟩ := noB2 hB
        have pl : PlainIx kx := by
          intro o i
          cases kx <;> first | rfl | (cases hp; done)
        have obj : PE X (.Subscript qx kx p0) (tOp (rIxL C.K) (tE C X.mg H0 W a) (tE C X.mg H0 W b)) := by
          rw [ok.hK]
          exact pe_ix ix_list ha hb pl
        have nl : PE X (.List [] p1) (tLst tNil) := pe_lst pa_nil
        constructor
        · refine ⟨fun pins s σ H Q I hq => ?_⟩
          obtain ⟨B, ρ, γ, S, hq⟩ := hq
          refine (pe_cmpR (cmp_ok (C := noG C.K) ok.hK (fun _ z => nomatch z) ok.units .ne) obj nl rfl).run pins s σ H Q I (qne_core ok.hG ka kb S hq fun b g B' H' x1 g1 h1 => ?_)
          exact h1 _ _ _ x1 g1 (.bl b)
        · refine ⟨fun pins s σ H Q I hq => ?_⟩
          obtain ⟨B, ρ, γ, S, hq⟩ := hq
          refine (pt_cmpR (cmp_ok (C := noG C.K) ok.hK (fun _ z => nomatch z) ok.units .ne) obj nl rfl).run pins s σ H Q I (qne_core ok.hG ka kb S hq fun b g B' H' x1 g1 h1 => ?_)
          obtain ⟨b', e, h1⟩ := h1
          cases e
          exact ⟨_, rfl, h1 _ _ x1 g1⟩
    · cases hx
  · cases hx
theorem kn_qpop {P : Program} {w : World} {K : PySem.W.Frag} {mg : Str → Option Value} {base : Heap} {k0 : Nat} : KnowsX isQu P w K mg base k0 ".qpop" qpopS := by
  intro X N sc C W H0 x xs es ok hcm tk hP hw hK hmg hbase hx hsm hm hB hz
  unfold mX at hx
  rw [if_neg (by decide +kernel), if_pos rfl] at hx
  split at hx
  · rename_i qx kx p0 y p2 kc p1 p3
    split at hx
    · rename_i hp
      simp only [Bool.and_eq_true, decide_eq_true_eq] at hp
      obtain ⟨⟨rfl, hp⟩, hline⟩ := hp
      cases hx
      match es, hz, hB with
      | [a, b], hz, hB =>
        obtain ⟨ha, hb, _⟩ := hz
        obtain ⟨ka, kb⟩ := noB2 hB
        have pl : PlainIx kx := by
          intro o i
          cases kx <;> first | rfl | (cases hp; done)
        have obj : PE X (.Subscript qx kx p0) (tOp (rIxL C.K) (tE C X.mg H0 W a) (tE C X.mg H0 W b)) := by
          rw [ok.hK]
          exact pe_ix ix_list ha hb pl
        have main : PE X (.Call (.Attribute (.Subscript qx kx p0) "pop" p2) [.Constant (.int 0) kc p1] [] p3) (tE C X.mg H0 W (.call ".qpop" qpopS [a, b])) := by
          refine ⟨fun pins s σ H Q I hq => ?_⟩
          obtain ⟨B, ρ, γ, S, hq⟩ := hq
          refine (pe_bm PySem.F.plainAttrs_list PySem.F.slot_list_pop PySem.F.type_list_pop mt_popAt obj (pa_cons (pe_int (pos := p1)) pa_nil (starEach_cons rfl)) rfl (few1 rfl) hline (starEach_cons rfl) rfl).run pins s σ H Q I ?_
          obtain ⟨C0, γ0, q, refs, nd, nU, rfl⟩ := ok.hG
          refine ⟨B, ρ, γ, S, (ev2 hq).imp fun d g h1 => Done.le (k := .clean) ka fun v B1 H1 x1 g1 r1 => ?_⟩
          have S1 := S.ext x1 g1
          refine ⟨B1, ρ, g, S1, (h1.ext x1).imp fun e g2 h2 => Done.le (k := .clean) kb fun w B2 H2 x2 g2' r2 => ?_⟩
          have S2 := S1.ext x2 g2'
          unfold qpopS at h2
          split at h2
          · rename_i n k xs heq
            cases heq
            split at h2
            · rename_i qs hde
              split at h2
              · rename_i i hi
                split at h2
                · rename_i n0 ns hi2
                  cases r1
                  cases r2
                  obtain ⟨g0, hqx, qs', e1, e2⟩ := id g2'
                  cases qsD_de e1 hde
                  obtain ⟨r, hr, hr2, hr3⟩ := qs_at e2 hi hi2
                  have rm : r ∈ q :: refs := List.mem_cons_of_mem _ (List.mem_of_getElem? hr)
                  have rU : (quC C0 γ0 q refs).U r := .inr rm
                  have rq : q ≠ r := fun e => (List.nodup_cons.mp nd).1 (by rw [e]; exact List.mem_of_getElem? hr)
                  refine ⟨q, _, k, .ref r, rfl, rfl, .inl (.inl hqx), hr2, .inl ⟨rfl, _, .inl (.inl hr3)⟩, ?_⟩
                  refine ⟨r, (n0 :: ns).map V.int, 0, 0, .int n0, rfl, rfl, hr3, by decide, by decide, (ixN_seq (show ixN _ 0 = some 0 by unfold ixN; simp)).1, rfl, ?_⟩
                  refine h2 _ B2 _ (x1.trans (x2.trans (Ext.pokeU x2.s rU (S2.uB _ rU)))) ?_ (.int n0)
                  exact ⟨C0.stay _ _ _ g0 fun a ha => upd_ne fun e => nU r rm (e ▸ ha), by rw [upd_ne rq]; exact hqx, _, rfl, qs_set (List.nodup_cons.mp nd).2 e2 hr⟩
                · exact h2.elim
              · exact h2.elim
            · exact h2.elim
          · exact h2.elim
        exact ⟨main, t_val rfl main⟩
    · cases hx
  · cases hx
theorem kn_qget {P : Program} {w : World} {K : PySem.W.Frag} {mg : Str → Option Value} {base : Heap} {k0 : Nat} : KnowsX isQu P w K mg base k0 ".qget" qgetS := by
  intro X N sc C W H0 x xs es ok hcm tk hP hw hK hmg hbase hx hsm hm hB hz
  unfold mX at hx
  rw [if_neg (by decide +kernel), if_neg (by decide +kernel), if_neg (by decide +kernel), if_neg (by decide +kernel), if_pos rfl] at hx
  split at hx
  · rename_i qx kx p0 kc p1 pos
    split at hx
    · rename_i hp
      cases hx
      match es, hz, hB with
      | [a, b], hz, hB =>
        obtain ⟨ha, hb, _⟩ := hz
        obtain ⟨ka, kb⟩ := noB2 hB
        have pl : PlainIx kx := by
          intro o i
          cases kx <;> first | rfl | (cases hp; done)
        have obj : PE X (.Subscript qx kx p0) (tOp (rIxL C.K) (tE C X.mg H0 W a) (tE C X.mg H0 W b)) := by
          rw [ok.hK]
          exact pe_ix ix_list ha hb pl
        have main : PE X (.Subscript (.Subscript qx kx p0) (.Constant (.int 0) kc p1) pos) (tE C X.mg H0 W (.call ".qget" qgetS [a, b])) := by
          refine ⟨fun pins s σ H Q I hq => ?_⟩
          obtain ⟨B, ρ, γ, S, hq⟩ := hq
          refine (pe_ix ix_list obj pe_int (fun _ _ => rfl)).run pins s σ H Q I ?_
          have hKX := ok.hK
          obtain ⟨C0, γ0, q, refs, nd, nU, rfl⟩ := ok.hG
          refine ⟨B, ρ, γ, S, (ev2 hq).imp fun d g h1 => Done.le (k := .clean) ka fun v B1 H1 x1 g1 r1 => ?_⟩
          have S1 := S.ext x1 g1
          refine ⟨B1, ρ, g, S1, (h1.ext x1).imp fun e g2 h2 => Done.le (k := .clean) kb fun w B2 H2 x2 g2' r2 => ?_⟩
          have S2 := S1.ext x2 g2'
          unfold qgetS at h2
          split at h2
          · rename_i n k xs heq
            cases heq
            split at h2
            · rename_i qs hde
              split at h2
              · rename_i i hi
                split at h2
                · rename_i n0 ns hi2
                  cases r1
                  cases r2
                  obtain ⟨g0, hqx, qs', e1, e2⟩ := id g2'
                  cases qsD_de e1 hde
                  obtain ⟨r, hr, hr2, hr3⟩ := qs_at e2 hi hi2
                  refine ⟨q, _, k, .ref r, rfl, rfl, .inl (.inl hqx), hr2, ?_⟩
                  exact ⟨r, (n0 :: ns).map V.int, 0, .int n0, rfl, rfl, .inl (.inl hr3), atI_of (i := 0) (show ixN _ 0 = some 0 by unfold ixN; simp) rfl, h2 _ B2 _ (x1.trans x2) g2' (.int n0)⟩
                · exact h2.elim
              · exact h2.elim
            · exact h2.elim
          · exact h2.elim
        exact ⟨main, t_val rfl main⟩
    · cases hx
  · cases hx
theorem kn_qapp {P : Program} {w : World} {K : PySem.W.Frag} {mg : Str → Option Value} {base : Heap} {k0 : Nat} : KnowsX isQu P w K mg base k0 ".qapp" qappS := by
  intro X N sc C W H0 x xs es ok hcm tk hP hw hK hmg hbase hx hsm hm hB hz
  unfold mX at hx
  rw [if_pos rfl] at hx
  split at hx
  · rename_i qx kx p0 y p2 ex p3
    split at hx
    · rename_i hp
      simp only [Bool.and_eq_true, decide_eq_true_eq] at hp
      obtain ⟨⟨⟨rfl, hp⟩, hs⟩, hline⟩ := hp
      cases hx
      match es, hz, hB, hsm with
      | [a, b, c], hz, hB, hsm =>
        obtain ⟨ha, hb, hc, _⟩ := hz
        obtain ⟨ka, kb, kc⟩ := noB3 hB
        have sc3 : smE c = true := by
          have h0 : sm3 [a, b, c] = true := by
            unfold smOk at hsm
            rw [Bool.and_eq_true] at hsm
            have h1 := hsm.1
            rwa [decide_eq_false (fun k => k rfl), Bool.false_or] at h1
          have : (smE c && true) = true := h0
          rwa [Bool.and_true] at this
        have pl : PlainIx kx := by
          intro o i
          cases kx <;> first | rfl | (cases hp; done)
        have obj : PE X (.Subscript qx kx p0) (tOp (rIxL C.K) (tE C X.mg H0 W a) (tE C X.mg H0 W b)) := by
          rw [ok.hK]
          exact pe_ix ix_list ha hb pl
        have main : PE X (.Call (.Attribute (.Subscript qx kx p0) "append" p2) [ex] [] p3) (tE C X.mg H0 W (.call ".qapp" qappS [a, b, c])) := by
          refine ⟨fun pins s σ H Q I hq => ?_⟩
          obtain ⟨B, ρ, γ, S, hq⟩ := hq
          refine (pe_bm PySem.F.plainAttrs_list PySem.F.slot_list_append PySem.F.type_list_append mt_append obj (pa_cons hc pa_nil (starEach_cons hs)) rfl (few1 hs) hline (starEach_cons hs) rfl).run pins s σ H Q I ?_
          obtain ⟨C0, γ0, q, refs, nd, nU, rfl⟩ := ok.hG
          refine ⟨B, ρ, γ, S, (ev3 hq).imp fun d g h1 => Done.le (k := .clean) ka fun v B1 H1 x1 g1 r1 => ?_⟩
          have S1 := S.ext x1 g1
          refine ⟨B1, ρ, g, S1, (h1.ext x1).imp fun e g2 h2 => Done.le (k := .clean) kb fun w B2 H2 x2 g2' r2 => ?_⟩
          have S2 := S1.ext x2 g2'
          rcases smE_ev sc3 ρ g2 with hev | ⟨z, hev⟩
          · rw [hev] at h2; exact h2.elim
          rw [hev] at h2
          have h3 : Fin (quC C0 γ0 q refs) X.mg W B σ H (qappS [d, e, z] g2) fun d g => Done (quC C0 γ0 q refs) B H g .clean d Q := h2
          clear h2
          unfold qappS at h3
          split at h3
          · rename_i n k j xs heq
            cases heq
            split at h3
            · rename_i qs hde
              split at h3
              · rename_i i hi
                split at h3
                · rename_i ns hi2
                  split at h3
                  · rename_i hsz
                    cases r1
                    cases r2
                    obtain ⟨_, hqx, qs', e1, e2⟩ := id g2'
                    cases qsD_de e1 hde
                    obtain ⟨r, hr, hr2, hr3⟩ := qs_at e2 hi hi2
                    have rm : r ∈ q :: refs := List.mem_cons_of_mem _ (List.mem_of_getElem? hr)
                    have rU : (quC C0 γ0 q refs).U r := .inr rm
                    have rq : q ≠ r := fun e => (List.nodup_cons.mp nd).1 (by rw [e]; exact List.mem_of_getElem? hr)
                    refine ⟨q, _, k, .ref r, rfl, rfl, .inl (.inl hqx), hr2, .inl ⟨rfl, _, .inl (.inl hr3)⟩, ?_⟩
                    refine ⟨B2, ρ, _, S2, ?_⟩
                    rw [hev]
                    refine Done.le (k := .clean) kc fun u B3 H3 x3 g3 r3 => ?_
                    have S3 := S2.ext x3 g3
                    obtain ⟨g0, hqx3, qs', e1, e2⟩ := id g3
                    cases qsD_de e1 hde
                    obtain ⟨r', hr', _, hr3⟩ := qs_at e2 hi hi2
                    rw [hr] at hr'
                    cases hr'
                    cases r3
                    refine ⟨r, ns.map V.int, .int j, rfl, rfl, hr3, by rw [List.length_map]; exact hsz, ?_⟩
                    refine h3 _ B3 _ (x1.trans (x2.trans (x3.trans (Ext.pokeU x3.s rU (S3.uB _ rU))))) ?_ .non
                    refine ⟨C0.stay _ _ _ g0 fun a ha => upd_ne fun e => nU r rm (e ▸ ha), by rw [upd_ne rq]; exact hqx3, _, rfl, ?_⟩
                    have := qs_set (ns := ns ++ [j]) (List.nodup_cons.mp nd).2 e2 hr
                    rwa [List.map_append] at this
                  · exact h3.elim
                · exact h3.elim
              · exact h3.elim
            · exact h3.elim
          · exact h3.elim
        exact ⟨main, t_val rfl main⟩
    · cases hx
  · cases hx
end
end PyI

set_option maxRecDepth 100000
/-! PyI, part QC: a def whose first statement makes a list of lists of its own. -/
namespace PyI
open PySem PySem.Spec PyProof.Rows L2
section
variable {K : PySem.W.Frag} {hv hv' : Nat → V} {B : Hp}
mutual
theorem Rep.recast : ∀ (d : D) (v : V), plain d = true → Rep K hv B v d → Rep K hv' B v d
  | .non, _, _, h => by cases h; exact .non
  | .bl b, _, _, h => by cases h; exact .bl b
  | .int b, _, _, h => by cases h; exact .int b
  | .str b, _, _, h => by cases h; exact .str b
  | .han n, _, p, h => by cases p
  | .scr n, _, p, h => by cases p
  | .obj _ _ _, _, p, h => by cases p
  | .tup ds, _, p, h => by
    cases h with
    | tup a r => exact .tup a (Reps.recast ds _ (by rw [plain] at p; exact p) r)
  | .lst ds, _, p, h => by
    cases h with
    | lst a r => exact .lst a (Reps.recast ds _ (by rw [plain] at p; exact p) r)
  | .dic ds, _, p, h => by
    cases h with
    | dic a r => exact .dic a (RepKv.recast ds _ (by rw [plain] at p; exact p) r)
theorem Reps.recast : ∀ (d : List D) (v : List V), plains d = true → Reps K hv B v d → Reps K hv' B v d
  | [], _, _, h => by cases h; exact .nil
  | d :: ds, _, p, h => by
    rw [plains, Bool.and_eq_true] at p
    cases h with
    | cons a r => exact .cons (Rep.recast d _ p.1 a) (Reps.recast ds _ p.2 r)
theorem RepKv.recast : ∀ (d : List (L2.Key × D)) (v : List (L2.Key × V)), plainKv d = true → RepKv K hv B v d → RepKv K hv' B v d
  | [], _, _, h => by cases h; exact .nil
  | (k, d) :: ds, _, p, h => by
    rw [plainKv, Bool.and_eq_true] at p
    cases h with
    | cons a r => exact .cons (Rep.recast d _ p.1 a) (RepKv.recast ds _ p.2 r)
end
end
theorem plains_get : ∀ {ds : List D} {i : Nat} {d : D}, plains ds = true → ds[i]? = some d → plain d = true
  | [], i, d, _, h => by simp at h
  | e :: ds, 0, d, p, h => by
    rw [plains, Bool.and_eq_true] at p
    simp at h; subst h; exact p.1
  | e :: ds, i + 1, d, p, h => by
    rw [plains, Bool.and_eq_true] at p
    exact plains_get p.2 (by simpa using h)
/-- slots without a handle, no dicts of their own -/
def plS : Sl → Bool
  | .un => true
  | .val d => plain d
  | .ol xs => plains xs
  | .od _ => false
  | .er _ _ _ => false
theorem St.recast {C C' : Gho} (hK : C'.K = C.K) {H0 B H : Hp} {σ : L2.St} {ρ : Rho} {γ γ' : D} (S : St C H0 B σ H ρ γ) (g : C'.rep γ' H) (u : ∀ a, C'.U a → B a = none) (pl : ∀ (i : Nat) (s : Sl), ρ[i]? = some s → plS s = true)
    (ap : ∀ (i : Nat) (xs : List D) (l : Addr), ρ[i]? = some (.ol xs) → σ[i]? = some (some (.ref l)) → ¬ C'.U l) : St C' H0 B σ H ρ γ' where
  sub := S.sub
  uB := u
  gh := g
  len := S.len
  val := fun i d h => by
    obtain ⟨v, h1, h2⟩ := S.val i d h
    exact ⟨v, h1, hK ▸ Rep.recast d v (pl i _ h) h2⟩
  ol := fun i xs h => by
    obtain ⟨l, vs, h1, h2, h3, h4, h5, h6⟩ := S.ol i xs h
    exact ⟨l, vs, h1, h2, h3, ap i xs l h h1, h5, hK ▸ Reps.recast xs vs (pl i _ h) h6⟩
  od := fun i ks h => by
    have := pl i _ h
    cases this
  er := fun i L c fs h => by
    have := pl i _ h
    cases this
  apart := S.apart
theorem Ext.wider {U U' : Addr → Prop} {B H B' H' : Hp} (h : ∀ a, U a → U' a) (f : ∀ a, U' a → ¬ U a → H a = none) (x : Ext U B H B' H') : Ext U' B H B' H' where
  b := x.b
  s := x.s
  new := x.new
  keep := fun a o e n => x.keep a o e fun u => n (h a u)
  uk := fun a u e => by
    by_cases q : U a
    · exact x.uk a q e
    · exact absurd (f a u q) e
theorem Ext.narrow {U U' : Addr → Prop} {B H B' H' : Hp} (h : ∀ a, U a → U' a) (f : ∀ a, U' a → ¬ U a → H a = none) (x : Ext U' B H B' H') : Ext U B H B' H' where
  b := x.b
  s := x.s
  new := x.new
  keep := fun a o e n => x.keep a o e fun u => by
    rw [f a u n] at e; cases e
  uk := fun a u e => x.uk a (h a u) e
def rho0 (np n : Nat) (ds : List D) : Rho := ds.map .val ++ List.replicate (n - np) .un
def playedS (np n : Nat) (it : I) (ep : E) (i1 i2 iq ip : Nat) (rest : List S) : Sem := fun ds g => if ds.length = np ∧ plains ds = true then
    match evI it (rho0 np n ds) g with
    | .ok xs g1 => match ev ep (rho0 np n ds) g1 with
      | .ok d g2 => if xs.length ≤ sizeLine ∧ plain d = true then
          match execs rest (((((rho0 np n ds).set i1 (.ol [])).set i2 (.ol [])).set iq (.val (.han 0))).set ip (.val d)) (qsD (List.replicate xs.length [])) with
          | .rt d' _ => if plain d' = true then .ok d' g2 else .no
          | _ => .no
        else .no
      | _ => .no
    | _ => .no
  else .no
theorem qs_rep {refs : List Addr} {H : Hp} {n : Nat} (hl : refs.length = n) (h : ∀ r ∈ refs, H r = some (.lst [])) : QsAt refs (List.replicate n []) H := by
  refine ⟨by rw [List.length_replicate, hl], fun i r ns a1 a2 => ?_⟩
  have := List.eq_of_mem_replicate (List.mem_of_getElem? a2)
  subst this
  exact h r (List.mem_of_getElem? a1)
theorem set_ref {σ : L2.St} {i : Nat} {a b : Addr} (h : (σ.set i (some (V.ref a)))[i]? = some (some (.ref b))) : a = b := by
  by_cases hl : i < σ.length
  · rw [List.getElem?_set_self hl] at h
    cases h; rfl
  · rw [List.getElem?_eq_none (by rw [List.length_set]; omega)] at h
    cases h
theorem calm_of {N ps : List Str} {sc : Scope} (FS : FnScope N ps sc) : calmB sc = true := by
  unfold calmB; rw [FS.co]; rfl
theorem qu_ne {C : Gho} (h : isQu C) : ∀ L c a od, ¬ C.er L c a od := by
  obtain ⟨_, _, _, _, _, _, rfl⟩ := h
  exact fun _ _ _ _ z => z
theorem played_of {G : Gho → Prop} {P : Program} {w : World} {K : PySem.W.Frag} {mg : Str → Option Value} {base : Heap} {x : Str} {st : Stmt} {N ps : List Str} {k : Nat} {rest : List S} {xs : List Stmt} {it : I} {ep : E} {i1 i2 iq ip j : Nat} {tn : List Expr} {kt k2 : Nat} {pt pt2 pa pb pc p1 pos : Pos} {tg' it' v : Expr} {scope : Scope}
    (DA : DefAt K mg x st ps) (FS : FnScope N ps (defScope st))
    (hd : defBody st = .Assign [.Tuple tn kt pt] (.Tuple [.List [] pa, .List [] pb, .ListComp (.List [] p1) [⟨tg', it', [], 0⟩] scope pc, v] k2 pt2) pos :: xs)
    (ht : tgNames N (defScope st) [i1, i2, iq, ip] tn = true) (hnd : [i1, i2, iq, ip].Nodup) (hbk : blkC N (defScope st) scope (blkN N (.one j)) = true) (htg : mTg N scope (.one j) tg' = true) (hns : notSet it' = true) (hit : mI N (defScope st) it it' = true) (hpl : plainI it = true)
    (hv : mE N (defScope st) ep v = true) (hvs : notStar v = true) (hvk : (kd ep).le .clean = true) (hb : mSs N (defScope st) rest xs = true) (hN : ps.length ≤ N.length) (hbt : ∀ x ∈ biNames, mg x = none)
    (al : ∀ C : Gho, G C → C.K = K → allI (Knows G P w K mg base k) (Names K mg C) it ∧ allE (Knows G P w K mg base k) (Names K mg C) ep)
    (al' : ∀ C : Gho, isQu C → C.K = K → allSs (Knows isQu P w K mg base k) (Names K mg C) rest) (hdot : isDot x = false := by decide +kernel) :
    Knows G P w K mg base (k + 1) x (playedS ps.length N.length it ep i1 i2 iq ip rest) := by
  obtain ⟨a, fd, F, hmg, hbind⟩ := DA
  refine .inl ⟨hdot, k + 1, a, fd, ps, Nat.le_refl _, fnG_of F FS ?_ ?_, hmg, F.kp, hbind, ?_⟩
  · rintro vs H Q E ⟨C, B, γ, ds, _, _, _, _, _, _, _, r, hl, _⟩
    rw [r.length, hl]
  · rintro cdv A outer s H vs Q E hg hr ⟨C, B, γ, ds, hK, hG, hn, sB, g, u, hnr, r, hl, hq⟩
    have ok : XOk G (cxOf (L2.CX P w) P w K mg base N x (defScope st) a cdv A outer s H E) N (defScope st) k C :=
      { hN := rfl, nd := FS.nd, sc := fun x q h => ⟨q, h, .inl rfl⟩, calm := fun _ => rfl, nr := fun _ => hnr, er := fun L c a od h => (hnr L c a od h).elim, gd := hg, room := fun _ => hr, unt := room_unt hr, hK := hK, hG := hG, hn := hn, bt := hbt, fn := fun _ _ => rfl }
    have tk : Takes (cxOf (L2.CX P w) P w K mg base N x (defScope st) a cdv A outer s H E) (fun cls d _ H => E cls d H) := takes_of rfl rfl rfl rfl
    have alC := al C hG hK
    have pit : PI (cxOf (L2.CX P w) P w K mg base N x (defScope st) a cdv A outer s H E) tg' it' (tI C mg H (fun cls d _ H => E cls d H) it) := (all_I it).1 ok tk hit (by rw [hpl, Bool.or_true]) alC.1
    have pe1 : PE (cxOf (L2.CX P w) P w K mg base N x (defScope st) a cdv A outer s H E) v (tE C mg H (fun cls d _ H => E cls d H) ep) := (all_E ep).1 ok tk hv alC.2
    have pq := c_qs (p1 := p1) (pos := pc) ok (calm_of FS) hbk htg hns pit
    have ppa := pa_cons (pe_lst (pos := pa) pa_nil) (pa_cons (pe_lst (pos := pb) pa_nil) (pa_cons pq (pa_cons pe1 pa_nil (starEach_cons hvs)) rfl) rfl) rfl
    obtain ⟨t1, t2, t3⟩ := g_names ok ht
    have l4 : tn.length = 4 := (tg_len ht).symm
    have h1 := ps_asg (pos := pos) (pe_tup (x1 := k2) (pos := pt2) ppa) (pg_tup (k := kt) (pos := pt) (ok.calm (calm_of FS)) t1 t2 t3) rfl (swN (by omega))
    have h2 : PSs (cxOf (L2.CX P w) P w K mg base N x (defScope st) a cdv A outer s H E) xs (fun Dn σ H1 => ∃ (C' : Gho) (B0 H0 : Hp), isQu C' ∧ C'.K = K ∧ (∀ n, C'.hv n ≠ .non) ∧ tSs C' mg B0 H0 (fun cls d _ H => E cls d H) rest Dn σ H1) := by
      refine ⟨fun pins s1 σ H1 Dn I h => ?_⟩
      obtain ⟨C', B0, H0, hG', hK', hn', h⟩ := h
      have ok' : XOk isQu (cxOf (L2.CX P w) P w K mg base N x (defScope st) a cdv A outer s H E) N (defScope st) k C' :=
        { hN := rfl, nd := FS.nd, sc := fun x q h => ⟨q, h, .inl rfl⟩, calm := fun _ => rfl, nr := fun _ => qu_ne hG', er := fun L c a od h => (qu_ne hG' L c a od h).elim, gd := hg, room := fun _ => hr, unt := room_unt hr, hK := hK', hG := hG', hn := hn', bt := hbt, fn := fun _ _ => rfl }
      exact (sSs rest ok' tk ⟨passes_of rfl, rfl, rfl⟩ hb (al' C' hG' hK')).run pins s1 σ H1 Dn I h
    rw [hd]
    refine ⟨_, pss_cons h1 h2, ?_⟩
    by_cases hp : plains ds = true
    case neg =>
      unfold playedS at hq
      rw [if_neg (fun z => hp z.2)] at hq
      exact hq.elim
    unfold playedS at hq
    rw [if_pos ⟨hl, hp⟩] at hq
    have S0 : St C H B (L2.start N vs) H (rho0 ps.length N.length ds) γ := start_ok hN sB u g hl r
    have flat : ∀ (i : Nat) (s : Sl), (rho0 ps.length N.length ds)[i]? = some s → plS s = true ∧ isO s = false := fun i s h => by
      rcases getv h with ⟨d, h1, rfl⟩ | rfl
      · exact ⟨plains_get hp h1, rfl⟩
      · exact ⟨rfl, rfl⟩
    generalize rho0 ps.length N.length ds = ρ at hq S0 flat
    cases e1 : evI it ρ γ with
    | exc c fs g1 => simp only [e1] at hq
    | no => simp only [e1] at hq
    | ok xs g1 =>
    simp only [e1] at hq
    cases e2 : ev ep ρ g1 with
    | exc c fs g2 => simp only [e2] at hq
    | no => simp only [e2] at hq
    | ok d g2 =>
    simp only [e2] at hq
    by_cases hc : xs.length ≤ sizeLine ∧ plain d = true
    case neg =>
      rw [if_neg hc] at hq
      exact hq.elim
    rw [if_pos hc] at hq
    obtain ⟨hc1, hc2⟩ := hc
    refine ⟨Nat.zero_le _, fun l1 hl1 => ?_⟩
    have X1 : Ext C.U B H B (upd H l1 (.lst [])) := Ext.alloc sB hl1
    have G1 := C.stayE (o := .lst []) g hl1
    have S1 := S0.ext X1 G1
    refine ⟨Nat.zero_le _, fun l2 hl2 => ?_⟩
    have o1 : upd (upd H l1 (.lst [])) l2 (.lst []) l1 = some (.lst []) := by
      rw [upd_ne fun e => by rw [← e, upd_same] at hl2; cases hl2]; exact upd_same
    have n12 : l1 ≠ l2 := fun e => by rw [← e, upd_same] at hl2; cases hl2
    have hl20 : H l2 = none := by rwa [upd_ne (Ne.symm n12)] at hl2
    have X2 := X1.trans (Ext.alloc (o := .lst []) X1.s hl2)
    have G2 := C.stayE (o := .lst []) G1 hl2
    have S2 := S0.ext X2 G2
    have o2 : upd (upd H l1 (.lst [])) l2 (.lst []) l2 = some (.lst []) := upd_same
    generalize upd (upd H l1 (.lst [])) l2 (.lst []) = H2 at S2 o1 o2 X2 G2 ⊢
    have nU1 : ¬ C.U l1 := fun q => C.has _ _ _ g q hl1
    have nU2 : ¬ C.U l2 := fun q => C.has _ _ _ g q hl20
    refine ⟨B, ρ, γ, S2, ?_⟩
    rw [e1]
    refine ⟨hc1, fun q refs B3 H3 x3 g3 hlen nd hfr hrs hqv => ?_⟩
    have S3 := S2.ext x3 g3
    have X3 := X2.trans x3
    refine ⟨B3, ρ, g1, S3, ?_⟩
    rw [e2]
    refine Done.le (k := .clean) hvk fun u4 B4 H4 x4 g4 r4 => ?_
    have S4 := S3.ext x4 g4
    have X4 := X3.trans x4
    refine ⟨size60 (by show 4 ≤ 60; decide), fun p hp4 => ?_⟩
    have X5 := X4.trans (Ext.alloc (o := .tup [.ref l1, .ref l2, .ref q, u4]) X4.s hp4)
    have G5 := C.stayE (o := .tup [.ref l1, .ref l2, .ref q, u4]) g4 hp4
    have S5 := S4.ext (Ext.alloc (o := .tup [.ref l1, .ref l2, .ref q, u4]) X4.s hp4) G5
    have x35 := x4.trans (Ext.alloc (o := .tup [.ref l1, .ref l2, .ref q, u4]) X4.s hp4)
    have hfrU : ∀ r ∈ q :: refs, ¬ C.U r := fun r hr => (hfr r hr).2.2
    have hfrH : ∀ r ∈ q :: refs, H r = none := fun r hr => X2.none_before (hfr r hr).1
    have fne : ∀ r ∈ q :: refs, H3 r ≠ none := fun r hr => by
      rcases List.mem_cons.mp hr with rfl | hr
      · rw [hqv]; exact fun z => nomatch z
      · rw [hrs r hr]; exact fun z => nomatch z
    have b5 : ∀ r ∈ q :: refs, B4 r = none := fun r hr => x4.stillNone (hfr r hr).2.1 (fne r hr)
    have k5 : ∀ a o, H3 a = some o → ¬ C.U a → upd H4 p (.tup [.ref l1, .ref l2, .ref q, u4]) a = some o := x35.keep
    have m1 := k5 _ _ (x3.keep _ _ o1 nU1) nU1
    have m2 := k5 _ _ (x3.keep _ _ o2 nU2) nU2
    refine ⟨p, _, rfl, .inl (.inl upd_same), rfl, ?_⟩
    generalize upd H4 p (.tup [.ref l1, .ref l2, .ref q, u4]) = H5 at S5 G5 X5 k5 m1 m2 ⊢
    refine setV_gNames rfl ?_
    have bl1 : B4 l1 = none := (x3.trans x4).stillNone (sB.free hl1) (by rw [o1]; exact fun z => nomatch z)
    have bl2 : B4 l2 = none := (x3.trans x4).stillNone (sB.free hl20) (by rw [o2]; exact fun z => nomatch z)
    have S6 := S5.setS (i := i1) (l := l1) (s := .ol []) ⟨.lst [], m1, Reps.nil, bl1, nU1, hl1⟩ (fun j t hj ht hto => by rw [(flat j t ht).2] at hto; cases hto)
    have S7 := S6.setS (i := i2) (l := l2) (s := .ol []) ⟨.lst [], m2, Reps.nil, bl2, nU2, hl20⟩ (fun j t hj ht hto hσ => by
      rcases get_set ht with ⟨rfl, _, _⟩ | ⟨h1, h2⟩
      · exact n12 (set_ref hσ)
      · rw [(flat j t h2).2] at hto; cases hto)
    have a1 : l1 ∉ q :: refs := fun hm => by
      have := (hfr l1 hm).1
      rw [o1] at this; cases this
    have a2 : l2 ∉ q :: refs := fun hm => by
      have := (hfr l2 hm).1
      rw [o2] at this; cases this
    have GQ : (quC C g2 q refs).rep (qsD (List.replicate xs.length [])) H5 :=
      ⟨G5, k5 _ _ hqv (hfrU q List.mem_cons_self), _, rfl, qs_rep hlen fun r hr => k5 _ _ (hrs r hr) (hfrU r (List.mem_cons_of_mem _ hr))⟩
    have S8 := S7.recast (C := C) (C' := quC C g2 q refs) rfl GQ (fun a ha => by
        rcases ha with ha | ha
        · exact S5.uB a ha
        · exact b5 a ha) (fun i s h => by
        rcases get_set h with ⟨rfl, _, rfl⟩ | ⟨_, h⟩
        · rfl
        rcases get_set h with ⟨rfl, _, rfl⟩ | ⟨_, h⟩
        · rfl
        exact (flat i s h).1) (fun i ys l h hσ => by
        rcases get_set h with ⟨rfl, _, _⟩ | ⟨n1, h⟩
        · cases set_ref hσ
          exact fun z => z.elim nU2 a2
        rw [set_other n1] at hσ
        rcases get_set h with ⟨rfl, _, _⟩ | ⟨n2, h⟩
        · cases set_ref hσ
          exact fun z => z.elim nU1 a1
        · have := (flat i _ h).2
          cases this)
    have S9 := S8.set iq (d := .han 0) (v := .ref q) (.han 0)
    have S10 := S9.set ip (Rep.recast d u4 hc2 r4)
    have wid : ∀ a, (quC C g2 q refs).U a → ¬ C.U a → H a = none := fun a h n => h.elim (fun z => absurd z n) fun z => hfrH a z
    refine ⟨quC C g2 q refs, B, H, ⟨C, g2, q, refs, nd, hfrU, rfl⟩, hK, (fun _ z => nomatch z), B4, _, _, S10, Ext.wider (fun a h => .inl h) wid X5, ?_⟩
    cases e3 : execs rest ((((ρ.set i1 (.ol [])).set i2 (.ol [])).set iq (.val (.han 0))).set ip (.val d)) (qsD (List.replicate xs.length [])) with
    | rt d' g' =>
      simp only [e3] at hq
      by_cases hd' : plain d' = true
      · rw [if_pos hd'] at hq
        exact fun v B2 H2 x2 gc r2 => hq v B2 H2 (Ext.narrow (fun a h => .inl h) wid x2) gc.1 (Rep.recast d' v hd' r2)
      · rw [if_neg hd'] at hq
        exact hq.elim
    | nx _ _ => simp only [e3] at hq
    | bk _ _ => simp only [e3] at hq
    | ct _ _ => simp only [e3] at hq
    | ex _ _ _ => simp only [e3] at hq
    | no => simp only [e3] at hq
  · intro ds γ h
    unfold playedS
    rw [if_neg (fun z => h z.1)]
def mQ (N : List Str) (sc : Scope) (it : I) (ep : E) (i1 i2 iq ip j : Nat) : Stmt → Bool
  | .Assign [.Tuple tn _ _] (.Tuple [.List [] _, .List [] _, .ListComp (.List [] _) [⟨tg', it', [], 0⟩] scope _, v] _ _) _ => tgNames N sc [i1, i2, iq, ip] tn && decide ([i1, i2, iq, ip].Nodup) && blkC N sc scope (blkN N (.one j)) && mTg N scope (.one j) tg' && notSet it' && mI N sc it it' && plainI it && mE N sc ep v && notStar v && (kd ep).le .clean
  | _ => false
theorem played_mk {G : Gho → Prop} {P : Program} {w : World} {K : PySem.W.Frag} {mg : Str → Option Value} {base : Heap} {x : Str} {st x0 : Stmt} {N ps : List Str} {k : Nat} {rest : List S} {xs : List Stmt} {it : I} {ep : E} {i1 i2 iq ip j : Nat}
    (DA : DefAt K mg x st ps) (FS : FnScope N ps (defScope st)) (hd : defBody st = x0 :: xs) (hq : mQ N (defScope st) it ep i1 i2 iq ip j x0 = true) (hb : mSs N (defScope st) rest xs = true) (hN : ps.length ≤ N.length) (hbt : ∀ x ∈ biNames, mg x = none)
    (al : ∀ C : Gho, G C → C.K = K → allI (Knows G P w K mg base k) (Names K mg C) it ∧ allE (Knows G P w K mg base k) (Names K mg C) ep)
    (al' : ∀ C : Gho, isQu C → C.K = K → allSs (Knows isQu P w K mg base k) (Names K mg C) rest) (hdot : isDot x = false := by decide +kernel) :
    Knows G P w K mg base (k + 1) x (playedS ps.length N.length it ep i1 i2 iq ip rest) := by
  unfold mQ at hq
  split at hq
  · simp only [Bool.and_eq_true, decide_eq_true_eq] at hq
    obtain ⟨⟨⟨⟨⟨⟨⟨⟨⟨a1, a2⟩, a3⟩, a4⟩, a5⟩, a6⟩, a7⟩, a8⟩, a9⟩, a10⟩ := hq
    exact played_of DA FS hd a1 a2 a3 a4 a5 a6 a7 a8 a9 a10 hb hN hbt al al' hdot
  · cases hq
theorem know_qne {P : Program} {w : World} {K : PySem.W.Frag} {mg : Str → Option Value} {base : Heap} {k : Nat} : Knows isQu P w K mg base k ".qne" qneS := .inr (.inl ⟨by decide +kernel, kn_qne⟩)
theorem know_qget {P : Program} {w : World} {K : PySem.W.Frag} {mg : Str → Option Value} {base : Heap} {k : Nat} : Knows isQu P w K mg base k ".qget" qgetS := .inr (.inl ⟨by decide +kernel, kn_qget⟩)
theorem know_qapp {P : Program} {w : World} {K : PySem.W.Frag} {mg : Str → Option Value} {base : Heap} {k : Nat} : Knows isQu P w K mg base k ".qapp" qappS := .inr (.inl ⟨by decide +kernel, kn_qapp⟩)
theorem know_qpop {P : Program} {w : World} {K : PySem.W.Frag} {mg : Str → Option Value} {base : Heap} {k : Nat} : Knows isQu P w K mg base k ".qpop" qpopS := .inr (.inl ⟨by decide +kernel, kn_qpop⟩)
end PyI

set_option maxRecDepth 100000
/-! PyI, part QF: a list of lists of its own whose lists are replaced. -/
namespace PyI
open PySem PySem.Spec PyProof.Rows L2
structure Good (C0 : Gho) (H0 : Hp) (q : Addr) (refs : List Addr) : Prop where
  nd : (q :: refs).Nodup
  nU : ∀ r ∈ q :: refs, ¬ C0.U r
  h0 : ∀ r ∈ q :: refs, H0 r = none
section
variable {C0 : Gho} {γ0 : D} {q : Addr} {B0 H0 : Hp} {refs : List Addr}
theorem Good.wid (g : Good C0 H0 q refs) : ∀ a, (quC C0 γ0 q refs).U a → ¬ C0.U a → H0 a = none := fun a h n => h.elim (fun z => absurd z n) fun z => g.h0 a z
theorem Good.isQ (g : Good C0 H0 q refs) : isQu (quC C0 γ0 q refs) := ⟨C0, γ0, q, refs, g.nd, g.nU, rfl⟩
theorem Good.ext (g : Good C0 H0 q refs) {B H B1 H1 : Hp} (x0 : Ext C0.U B0 H0 B H) (x1 : Ext (quC C0 γ0 q refs).U B H B1 H1) : Ext C0.U B0 H0 B1 H1 :=
  Ext.narrow (fun a h => .inl h) g.wid ((Ext.wider (fun a h => .inl h) g.wid x0).trans x1)
def FinF (C0 : Gho) (γ0 : D) (q : Addr) (B0 H0 Bk : Hp) (r : Rs) (Dn : Ends) : Prop := match r with
  | .nx ρ g => ∀ refs B σ H, Good C0 H0 q refs → St (quC C0 γ0 q refs) H0 B σ H ρ g → Ext C0.U B0 H0 B H → Same Bk B → Dn.nx σ H
  | .bk ρ g => ∀ refs B σ H, Good C0 H0 q refs → St (quC C0 γ0 q refs) H0 B σ H ρ g → Ext C0.U B0 H0 B H → Same Bk B → Dn.bk σ H
  | .ct ρ g => ∀ refs B σ H, Good C0 H0 q refs → St (quC C0 γ0 q refs) H0 B σ H ρ g → Ext C0.U B0 H0 B H → Same Bk B → Dn.ct σ H
  | .rt d g => ∀ refs v B H, Good C0 H0 q refs → Ext C0.U B0 H0 B H → (quC C0 γ0 q refs).rep g H → Rep C0.K (fun _ => .ref q) B v d → Dn.rt v H
  | _ => False
def tSF (C0 : Gho) (γ0 : D) (q : Addr) (B0 H0 : Hp) (s : S) : TS := fun Dn σ H => ∃ refs B ρ γ, Good C0 H0 q refs ∧ St (quC C0 γ0 q refs) H0 B σ H ρ γ ∧ Ext C0.U B0 H0 B H ∧ FinF C0 γ0 q B0 H0 B (exec s ρ γ) Dn
def tSsF (C0 : Gho) (γ0 : D) (q : Addr) (B0 H0 : Hp) (s : List S) : TS := fun Dn σ H => ∃ refs B ρ γ, Good C0 H0 q refs ∧ St (quC C0 γ0 q refs) H0 B σ H ρ γ ∧ Ext C0.U B0 H0 B H ∧ FinF C0 γ0 q B0 H0 B (execs s ρ γ) Dn
theorem FinF.later {r : Rs} {Dn : Ends} {Bk Bk' : Hp} (h : FinF C0 γ0 q B0 H0 Bk r Dn) (m : Same Bk Bk') : FinF C0 γ0 q B0 H0 Bk' r Dn := by
  cases r with
  | nx ρ g => exact fun refs B σ H y S x z => h refs B σ H y S x (m.trans z)
  | bk ρ g => exact fun refs B σ H y S x z => h refs B σ H y S x (m.trans z)
  | ct ρ g => exact fun refs B σ H y S x z => h refs B σ H y S x (m.trans z)
  | rt d g => exact h
  | ex c fs g => exact h
  | no => exact h
theorem FinF.mono {r : Rs} {Dn Dn' : Ends} {Bk : Hp} (h : FinF C0 γ0 q B0 H0 Bk r Dn) (h1 : ∀ σ H, Dn.nx σ H → Dn'.nx σ H) (h2 : ∀ σ H, Dn.bk σ H → Dn'.bk σ H) (h3 : ∀ σ H, Dn.ct σ H → Dn'.ct σ H) (h4 : ∀ v H, Dn.rt v H → Dn'.rt v H) : FinF C0 γ0 q B0 H0 Bk r Dn' := by
  cases r with
  | nx ρ g => exact fun refs B σ H y S x z => h1 _ _ (h refs B σ H y S x z)
  | bk ρ g => exact fun refs B σ H y S x z => h2 _ _ (h refs B σ H y S x z)
  | ct ρ g => exact fun refs B σ H y S x z => h3 _ _ (h refs B σ H y S x z)
  | rt d g => exact fun refs v B H y x gg r => h4 _ _ (h refs v B H y x gg r)
  | ex c fs g => exact h
  | no => exact h
theorem FinF.optS {α : Type} {o : Option α} {f : α → Rs} {Dn : Ends} {Bk : Hp} (h : FinF C0 γ0 q B0 H0 Bk (optS o f) Dn) : ∃ a, o = some a ∧ FinF C0 γ0 q B0 H0 Bk (f a) Dn := by
  cases o with
  | none => exact h.elim
  | some a => exact ⟨a, rfl, h⟩
theorem FinF.fin {mg : Str → Option Value} {W : WX} {r : Rs} {Dn : Ends} {Bk : Hp} (h : FinF C0 γ0 q B0 H0 Bk r Dn) (g : Good C0 H0 q refs) : FinS (quC C0 γ0 q refs) mg B0 H0 Bk W r Dn := by
  cases r with
  | nx ρ gg => exact fun B σ H S x m => h refs B σ H g S (Ext.narrow (fun a h => .inl h) g.wid x) m
  | bk ρ gg => exact fun B σ H S x m => h refs B σ H g S (Ext.narrow (fun a h => .inl h) g.wid x) m
  | ct ρ gg => exact fun B σ H S x m => h refs B σ H g S (Ext.narrow (fun a h => .inl h) g.wid x) m
  | rt d gg => exact fun v B H x rg r => h refs v B H g (Ext.narrow (fun a h => .inl h) g.wid x) rg r
  | ex c fs gg => exact h.elim
  | no => exact h.elim
variable {X : Cx} {N : List Str} {sc : Scope} {k : Nat} {W : WX} {G : Gho → Prop} {pos : Pos}
theorem liftF {x : Stmt} {s : S} (h : ∀ refs, Good C0 H0 q refs → PS X x (tS (quC C0 γ0 q refs) X.mg B0 H0 W s)) : PS X x (tSF C0 γ0 q B0 H0 s) := by
  refine ⟨fun pins s1 σ H Dn I hq => ?_⟩
  obtain ⟨refs, B, ρ, γ, g, S, x, hq⟩ := hq
  exact (h refs g).run pins s1 σ H Dn I ⟨B, ρ, γ, S, Ext.wider (fun a h => .inl h) g.wid x, hq.fin g⟩
theorem liftFs {xs : List Stmt} {ss : List S} (h : ∀ refs, Good C0 H0 q refs → PSs X xs (tSs (quC C0 γ0 q refs) X.mg B0 H0 W ss)) : PSs X xs (tSsF C0 γ0 q B0 H0 ss) := by
  refine ⟨fun pins s1 σ H Dn I hq => ?_⟩
  obtain ⟨refs, B, ρ, γ, g, S, x, hq⟩ := hq
  exact (h refs g).run pins s1 σ H Dn I ⟨B, ρ, γ, S, Ext.wider (fun a h => .inl h) g.wid x, hq.fin g⟩
theorem nilF : PSs X [] (tSsF C0 γ0 q B0 H0 []) := by
  refine ⟨fun pins s σ H Dn I h => ?_⟩
  obtain ⟨refs, B, ρ, γ, g, S, x0, hq⟩ := h
  rw [execs] at hq
  exact pss_nil.run pins s σ H Dn I (hq refs B σ H g S x0 (Same.refl _))
theorem consF {a : S} {r : List S} {x : Stmt} {xs : List Stmt} (h1 : PS X x (tSF C0 γ0 q B0 H0 a)) (h2 : PSs X xs (tSsF C0 γ0 q B0 H0 r)) : PSs X (x :: xs) (tSsF C0 γ0 q B0 H0 (a :: r)) := by
  refine ⟨fun pins s σ H Dn I hq => (pss_cons h1 h2).run pins s σ H Dn I ?_⟩
  obtain ⟨refs, B, ρ, γ, g, S, x0, hq⟩ := hq
  rw [execs] at hq
  refine ⟨refs, B, ρ, γ, g, S, x0, ?_⟩
  cases e : exec a ρ γ with
  | nx ρ1 g1 => rw [e] at hq; exact fun refs B2 σ2 H2 y S2 x2 m2 => ⟨refs, B2, ρ1, g1, y, S2, x2, FinF.later hq m2⟩
  | bk ρ1 g1 => rw [e] at hq; exact hq
  | ct ρ1 g1 => rw [e] at hq; exact hq
  | rt d g1 => rw [e] at hq; exact hq
  | ex c fs g1 => rw [e] at hq; exact hq.elim
  | no => rw [e] at hq; exact hq.elim
theorem c_ifF {t : E} {a b : List S} {x : Expr} {a' b' : List Stmt} (ht : ∀ refs, Good C0 H0 q refs → PT X x (tT (quC C0 γ0 q refs) X.mg H0 W t)) (ha : PSs X a' (tSsF C0 γ0 q B0 H0 a)) (hb : PSs X b' (tSsF C0 γ0 q B0 H0 b)) : PS X (.If x a' b' pos) (tSF C0 γ0 q B0 H0 (.ift t a b)) := by
  refine ⟨fun pins s σ H Dn I h => ?_⟩
  obtain ⟨refs, B, ρ, γ, g, S, x0, hq⟩ := h
  rw [exec] at hq
  refine (ps_if (ht refs g) ha hb).run pins s σ H Dn I ⟨B, ρ, γ, S, ?_⟩
  cases e : ev t ρ γ with
  | no => rw [e] at hq; exact hq.elim
  | exc c fs g1 => rw [e] at hq; exact hq.elim
  | ok d g1 =>
    rw [e] at hq
    simp only [R.then] at hq
    cases d <;> first | exact hq.elim | skip
    rename_i bb
    cases bb with
    | true => exact ⟨true, rfl, fun B1 H1 x1 g1' => by dsimp only; rw [if_pos rfl]; exact ⟨refs, B1, ρ, g1, g, S.ext x1 g1', g.ext x0 x1, hq.later x1.b⟩⟩
    | false => exact ⟨false, rfl, fun B1 H1 x1 g1' => by dsimp only; rw [if_neg Bool.false_ne_true]; exact ⟨refs, B1, ρ, g1, g, S.ext x1 g1', g.ext x0 x1, hq.later x1.b⟩⟩
def MoreF (C0 : Gho) (γ0 : D) (q : Addr) (B0 H0 Bk : Hp) (f : Rho → D → Rs) (Dn : Ends) : L2.St → Hp → Prop := fun σ H => ∃ refs B ρ g, Good C0 H0 q refs ∧ St (quC C0 γ0 q refs) H0 B σ H ρ g ∧ Ext C0.U B0 H0 B H ∧ Same Bk B ∧ FinF C0 γ0 q B0 H0 B (f ρ g) Dn
theorem loop_turnF {step : D → Rho → D → Rs} {d : D} {rest : List D} {ρ : Rho} {g : D} {Dn : Ends} {Bk : Hp} (h : FinF C0 γ0 q B0 H0 Bk (loopL step (d :: rest) ρ g) Dn) :
    FinF C0 γ0 q B0 H0 Bk (step d ρ g) { Dn with nx := MoreF C0 γ0 q B0 H0 Bk (loopL step rest) Dn, ct := MoreF C0 γ0 q B0 H0 Bk (loopL step rest) Dn, bk := Dn.nx } := by
  unfold loopL at h
  cases e : step d ρ g with
  | nx ρ1 g1 => rw [e] at h; exact fun refs B σ H y S x m => ⟨refs, B, ρ1, g1, y, S, x, m, FinF.later h m⟩
  | ct ρ1 g1 => rw [e] at h; exact fun refs B σ H y S x m => ⟨refs, B, ρ1, g1, y, S, x, m, FinF.later h m⟩
  | bk ρ1 g1 => rw [e] at h; exact h
  | rt d g => rw [e] at h; exact h
  | ex c fs g => rw [e] at h; exact h.elim
  | no => rw [e] at h; exact h.elim
/-- what stays as it is stays under any ghost -/
theorem Ext.rest {U U' : Addr → Prop} {B H B' H' : Hp} (x : Ext U B H B' H') (st : ∀ a, H a ≠ none → H' a = H a) : Ext U' B H B' H' where
  b := x.b
  s := x.s
  new := x.new
  keep := fun a o e _ => by rw [st a (by rw [e]; exact fun z => nomatch z)]; exact e
  uk := fun a _ e => by rw [st a e]; exact e
theorem c_loopF (ok : ∀ refs, Good C0 H0 q refs → XOk G X N sc k (quC C0 γ0 q refs)) (hcm : calmB sc = true) {tg : Tg} {it : I} (hpr : (!plainI it) = true → ∃ is, tg = .tup is) (hps : PassesOwn (model X.prog X.w) X.A X.env X.xe) {b : List S} {tg' it' : Expr} {b' : List Stmt} (ht : mTg N sc tg tg' = true) (hs : notSet it' = true) (hk : noB (kI it) = true)
    (hi : ∀ refs, Good C0 H0 q refs → PI X tg' it' (tI (quC C0 γ0 q refs) X.mg H0 W it)) (hb : PSs X b' (tSsF C0 γ0 q B0 H0 b)) : PS X (.For tg' it' b' [] pos) (tSF C0 γ0 q B0 H0 (.loop tg it b)) := by
  refine ⟨fun pins s σ H Dn I h => ?_⟩
  obtain ⟨refs, B, ρ, γ, gd, S, x0, hq⟩ := h
  have okr := ok refs gd
  rw [exec] at hq
  refine (ps_for hps (okr.calm hcm) (hi refs gd) (g_tg okr ht) hb (lc_fold hs)).run pins s σ H Dn I ⟨B, ρ, γ, S, ?_⟩
  cases e0 : evI it ρ γ with
  | no => rw [e0] at hq; exact hq.elim
  | exc c fs g1 => rw [e0] at hq; exact hq.elim
  | ok xs g =>
  rw [e0] at hq
  simp only [R.then] at hq
  intro J B1 H1 src x1 g1 ksrc _ drv
  obtain rfl : src = [] := by
    cases e : kI it with
    | fresh => rw [e] at ksrc; exact ksrc
    | clean => rw [e] at ksrc; exact ksrc
    | borrow => rw [e] at hk; cases hk
  generalize hst : (fun (x : D) (ρ1 : Rho) (g2 : D) => optS (bindT tg x ρ1) fun ρ2 => execs b ρ2 g2) = step at hq
  refine ⟨fun i m σ H => m = xs.length - i ∧ i ≤ xs.length ∧ MoreF C0 γ0 q B0 H0 B1 (loopL step (xs.drop i)) Dn σ H, ⟨xs.length, rfl, Nat.zero_le _, refs, B1, ρ, g, gd, S.ext x1 g1, gd.ext x0 x1, Same.refl _, hq.later x1.b⟩, ?_⟩
  rintro i m σ1 Hc ⟨rfl, hi, rc, Bc, ρc, gc, gdc, Sc, xc, mc, hc⟩
  by_cases hlt : i < xs.length
  · refine .inr ⟨drv.go i Bc Hc mc Sc.sub (fun _ z => nomatch z) hlt, MoreF C0 γ0 q B0 H0 B1 (loopL step (xs.drop (i + 1))) Dn, fun σ' H' p => ⟨xs.length - (i + 1), by omega, rfl, hlt, p⟩, fun x H' hy => ?_⟩
    obtain ⟨B', d, hd, xy0, stay, rd⟩ := drv.yld i Bc Hc x H' mc Sc.sub (fun _ z => nomatch z) hlt hy
    have xy : Ext (quC C0 γ0 q rc).U Bc Hc B' H' := xy0.rest stay
    have hdr : xs.drop i = d :: xs.drop (i + 1) := by
      rw [List.drop_eq_getElem_cons hlt]
      rw [List.getElem?_eq_getElem hlt] at hd
      cases hd; rfl
    rw [hdr] at hc
    have ht1 := loop_turnF hc
    rw [← hst] at ht1
    obtain ⟨ρ2, e2, ht2⟩ := ht1.optS
    rw [hst] at ht2
    have gy : (quC C0 γ0 q rc).rep gc H' := (quC C0 γ0 q rc).stay _ _ _ Sc.gh fun a hu => stay a ((quC C0 γ0 q rc).has _ _ _ Sc.gh hu)
    have S2 : St (quC C0 γ0 q rc) H0 B' σ1 H' ρc gc := Sc.ext xy gy
    refine gTg_ok (ok rc gdc).hK e2 hpr (show RepG (quC C0 γ0 q rc).K (quC C0 γ0 q rc).hv B' _ x d from rd) S2 fun σ2 S3 _ _ => ?_
    have m2 : Same B1 B' := mc.trans xy.b
    refine ⟨rc, B', ρ2, gc, gdc, S3, gdc.ext xc xy, (ht2.later xy.b).mono ?_ ?_ ?_ ?_⟩
    · rintro σ H ⟨r, B, ρ, g, q1, q2, q3, q4, q5⟩; exact ⟨r, B, ρ, g, q1, q2, q3, mc.trans q4, q5⟩
    · exact fun _ _ z => z
    · rintro σ H ⟨r, B, ρ, g, q1, q2, q3, q4, q5⟩; exact ⟨r, B, ρ, g, q1, q2, q3, mc.trans q4, q5⟩
    · exact fun _ _ z => z
  · obtain rfl : i = xs.length := Nat.le_antisymm hi (Nat.le_of_not_lt hlt)
    rw [List.drop_length, loopL] at hc
    exact .inl ⟨drv.stop Bc Hc mc Sc.sub (fun _ z => nomatch z), hc rc _ _ _ gdc Sc xc (Same.refl _)⟩
end
end PyI

set_option maxRecDepth 100000
/-! PyI, part QH: a list of a list of lists is cut, all are laid end to end. -/
namespace PyI
open PySem PySem.Spec PyProof.Rows L2
section
variable {C0 : Gho} {γ0 : D} {q : Addr} {B0 H0 : Hp} {refs : List Addr} {X : Cx} {N : List Str} {sc : Scope} {k : Nat} {W : WX} {G : Gho → Prop} {pos : Pos}
/-- nothing that was there changes -/
theorem Ext.kept {U : Addr → Prop} {B H H' : Hp} (s : Same B H) (kp : ∀ a o, H a = some o → H' a = some o) : Ext U B H B H' where
  b := Same.refl _
  s := fun a o h => kp a o (s a o h)
  new := fun _ _ h => .inl h
  keep := fun a o h _ => kp a o h
  uk := fun a _ h => by
    cases e : H a with
    | none => exact absurd e h
    | some o => rw [kp a o e]; exact fun z => nomatch z
theorem good_set {H : Hp} {j : Nat} {r' : Addr} (g : Good C0 H0 q refs) (hin : ∀ r ∈ q :: refs, H r ≠ none) (hr : H r' = none) (hu : ¬ C0.U r') (h0 : H0 r' = none) : Good C0 H0 q (refs.set j r') := by
  have nm : r' ∉ q :: refs := fun m => hin r' m hr
  have sub : ∀ r ∈ refs.set j r', r = r' ∨ r ∈ refs := fun r h => by
    rcases List.mem_or_eq_of_mem_set h with h | h
    · exact .inr h
    · exact .inl h
  have nd := List.nodup_cons.mp g.nd
  refine ⟨List.nodup_cons.mpr ⟨fun m => ?_, ?_⟩, fun r m => ?_, fun r m => ?_⟩
  · rcases sub _ m with e | m
    · exact nm (e ▸ List.mem_cons_self)
    · exact nd.1 m
  · have : ∀ (l : List Addr) (j : Nat), l.Nodup → r' ∉ l → (l.set j r').Nodup := by
      intro l
      induction l with
      | nil => intro j _ _; exact List.nodup_nil
      | cons a l ih =>
        intro j h1 h2
        obtain ⟨n1, n2⟩ := List.nodup_cons.mp h1
        cases j with
        | zero => exact List.nodup_cons.mpr ⟨fun m => h2 (List.mem_cons_of_mem _ m), n2⟩
        | succ j =>
          refine List.nodup_cons.mpr ⟨fun m => ?_, ih j n2 fun m => h2 (List.mem_cons_of_mem _ m)⟩
          rcases List.mem_or_eq_of_mem_set m with m | m
          · exact n1 m
          · exact h2 (m ▸ List.mem_cons_self)
    exact this refs j nd.2 fun m => nm (List.mem_cons_of_mem _ m)
  · rcases List.mem_cons.mp m with rfl | m
    · exact g.nU _ List.mem_cons_self
    · rcases sub _ m with rfl | m
      · exact hu
      · exact g.nU _ (List.mem_cons_of_mem _ m)
  · rcases List.mem_cons.mp m with rfl | m
    · exact g.h0 _ List.mem_cons_self
    · rcases sub _ m with rfl | m
      · exact h0
      · exact g.h0 _ (List.mem_cons_of_mem _ m)
theorem cut_drop1 {α : Type} {xs : List α} {k : Nat} : cutG xs (some (k : Int)) none = xs.drop k := by
  unfold cutG
  show (xs.drop (min ((k : Int).toNat) xs.length)).take (xs.length - min ((k : Int).toNat) xs.length) = _
  rw [Int.toNat_natCast]
  by_cases h : k ≤ xs.length
  · rw [Nat.min_eq_left h, List.take_of_length_le (by rw [List.length_drop]; omega)]
  · rw [Nat.min_eq_right (by omega), List.drop_length, List.drop_eq_nil_of_le (by omega)]; simp
theorem getV_of {ρ : Rho} {i : Nat} {d : D} (h : getV ρ i = some d) : ρ[i]? = some (.val d) := by
  unfold getV at h
  split at h
  · rename_i e; cases h; exact e
  · cases h
theorem c_qcut (ok : ∀ refs, Good C0 H0 q refs → XOk G X N sc k (quC C0 γ0 q refs)) {iq il : Nat} {y z : Str} {p p2 sp p3 p4 p5 p6 p7 p8 : Pos} {k6 : Nat} (hy : nameB N sc iq y = true) (hz : nameB N sc il z = true) :
    PS X (.Assign [.Subscript (.Name y p) (.Name z p2) sp] (.Subscript (.Subscript (.Name y p3) (.Name z p4) p5) (.Slice (some (.Constant (.int 1) k6 p6)) none none p7) p8) pos) (tSF C0 γ0 q B0 H0 (.qcut iq il)) := by
  have hasg : ∀ v, assign (.Subscript (.Name y p) (.Name z p2) sp) X.env v = (do
      let ov ← holding [v] (eval (.Name y p) X.env)
      let iv ← holding [v, ov] (eval (.Name z p2) X.env)
      standAt sp
      holding [v, ov, iv] (setItem ov iv v)
      release [v, ov, iv] []) := fun v => rfl
  refine ⟨fun pins s σ H Dn I h => ?_⟩
  obtain ⟨refs, B, ρ, γ, g, S, x0, hq⟩ := h
  have okr := ok refs g
  unfold exec at hq
  split at hq
  · rename_i n kk xs e1 e2
    obtain ⟨qs, hde, hq⟩ := hq.optS
    obtain ⟨j, hj, hq⟩ := hq.optS
    obtain ⟨ns, hns, hq⟩ := hq.optS
    obtain ⟨g0, hqx, qs', eγ, hqs⟩ := id S.gh
    cases qsD_de eγ hde
    obtain ⟨r, hr, hr2, hr3⟩ := qs_at hqs hj hns
    obtain ⟨v1, s1, r1⟩ := S.val iq _ (getV_of e1)
    obtain ⟨v2, s2, r2⟩ := S.val il _ (getV_of e2)
    cases r1
    cases r2
    have hobj : PE X (.Subscript (.Name y p3) (.Name z p4) p5) (tOp (rIxL X.K) _ _) := pe_ix ix_list (okr.name hy) (okr.name hz) (fun _ _ => rfl)
    refine (ps_asg (pe_slice (slc_ok (C := noG X.K) rfl) hobj (po_some pe_int) po_none) (pg_sub (okr.name hy) (okr.name hz) set_list hasg) (sw_sole rfl) rfl rfl).run pins s σ H Dn I ?_
    refine ⟨_, s1, _, s2, q, _, kk, .ref r, rfl, rfl, .inl (.inl hqx), hr2, ?_⟩
    refine ⟨_, rfl, ?_⟩
    refine ⟨fun _ => none, .non, .lst (ns.map .int), .lst ((ns.drop 1).map .int), (fun _ _ h => nomatch h), trivial, .inr (.inl ⟨r, _, _, rfl, rfl, hr3, fun h => h, Reps.ofInts ns⟩), ?_, ?_⟩
    · show some (D.lst (cutG (ns.map D.int) (some ((1 : Nat) : Int)) none)) = _
      rw [cut_drop1, List.map_drop]
    intro v B1 H1 x1 _ rv
    obtain ⟨r', vs, rfl, n1, n2, hv, rps⟩ := rv
    have evs := Reps.intsD rps (intsD_map _)
    subst evs
    have kp : ∀ a o, H a = some o → H1 a = some o := fun a o e => x1.keep a o e fun u => u
    refine ⟨_, s1, _, s2, ?_⟩
    have rne : ∀ r ∈ q :: refs, H r ≠ none := fun r m => (quC C0 γ0 q refs).has _ _ _ S.gh (.inr m)
    have nq : r' ≠ q := fun e => rne q List.mem_cons_self (e ▸ n1)
    have nu : ¬ C0.U r' := fun u => (quC C0 γ0 q refs).has _ _ _ S.gh (.inl u) n1
    have h00 : H0 r' = none := x0.none_before n1
    have g' : Good C0 H0 q (refs.set j r') := good_set g rne n1 nu h00
    have xk : Ext (quC C0 γ0 q refs).U B H B H1 := Ext.kept S.sub kp
    refine ⟨q, _, kk, j, rfl, rfl, kp _ _ hqx, ?_, ?_⟩
    · rw [List.length_map, ← hqs.1]; exact hj
    refine hq (refs.set j r') B σ _ g' ?_ ?_ (Same.refl _)
    · have hH' : ∀ l o, H l = some o → ¬ (quC C0 γ0 q refs).U l → upd H1 q (.lst ((refs.map V.ref).set j (.ref r'))) l = some o ∧ ¬ (quC C0 γ0 q (refs.set j r')).U l := fun l o e nu2 => by
        have lq : l ≠ q := fun z => nu2 (.inr (z ▸ List.mem_cons_self))
        refine ⟨by rw [upd_ne lq]; exact kp _ _ e, fun u => ?_⟩
        rcases u with u | u
        · exact nu2 (.inl u)
        · rcases List.mem_cons.mp u with u | u
          · exact lq u
          · rcases List.mem_or_eq_of_mem_set u with u | u
            · exact nu2 (.inr (List.mem_cons_of_mem _ u))
            · rw [u, n1] at e; cases e
      have sB : Same B (upd H1 q (.lst ((refs.map V.ref).set j (.ref r')))) := fun a o e => by
        have := S.sub a o e
        have nq2 : a ≠ q := fun z => by
          have := S.uB q (.inr List.mem_cons_self)
          rw [z, this] at e; cases e
        rw [upd_ne nq2]; exact kp _ _ this
      refine {
        sub := sB
        uB := fun a u => ?_
        gh := ⟨C0.stay _ _ _ g0 fun a ha => ?_, ?_, _, rfl, ?_, fun i r2 ms a1 a2 => ?_⟩
        len := S.len
        val := S.val
        ol := fun i xs e => ?_
        od := fun i ks e => ?_
        er := fun i L c fs e => ?_
        apart := S.apart }
      · rcases u with u | u
        · exact S.uB a (.inl u)
        · rcases List.mem_cons.mp u with u | u
          · exact S.uB a (.inr (u ▸ List.mem_cons_self))
          · rcases List.mem_or_eq_of_mem_set u with u | u
            · exact S.uB a (.inr (List.mem_cons_of_mem _ u))
            · subst u
              cases e : B a with
              | none => rfl
              | some o => have := S.sub a o e; rw [n1] at this; cases this
      · have aq : a ≠ q := fun z => g.nU q List.mem_cons_self (z ▸ ha)
        rw [upd_ne aq]
        cases e : H a with
        | none => exact absurd e (C0.has _ _ _ g0 ha)
        | some o => exact kp _ _ e
      · rw [upd_same, List.map_set]
      · rw [List.length_set, List.length_set]; exact hqs.1
      · have rq : ∀ r3 ∈ refs, r3 ≠ q := fun r3 m z => (List.nodup_cons.mp g.nd).1 (z ▸ m)
        by_cases e : j = i
        · subst e
          have il : j < qs.length := (List.getElem?_eq_some_iff.mp hns).1
          rw [List.getElem?_set_self il] at a2
          rw [List.getElem?_set_self (by rw [← hqs.1]; exact il)] at a1
          cases a1
          cases a2
          rw [upd_ne nq]; exact hv
        · rw [List.getElem?_set_ne e] at a1 a2
          rw [upd_ne (rq _ (List.mem_of_getElem? a1))]
          exact kp _ _ (hqs.2 i r2 ms a1 a2)
      · obtain ⟨l, vs, b1, b2, b3, b4, b5, b6⟩ := S.ol i xs e
        exact ⟨l, vs, b1, (hH' _ _ b2 b4).1, b3, (hH' _ _ b2 b4).2, b5, b6⟩
      · obtain ⟨l, vs, b1, b2, b3, b4, b5, b6⟩ := S.od i ks e
        exact ⟨l, vs, b1, (hH' _ _ b2 b4).1, b3, (hH' _ _ b2 b4).2, b5, b6⟩
      · obtain ⟨_, _, _, z, _⟩ := S.er i L c fs e
        exact z.elim
    · have x1' : Ext C0.U B0 H0 B H1 := g.ext x0 xk
      have hq0 : H0 q = none := g.h0 q List.mem_cons_self
      have bq : B q = none := S.uB q (.inr List.mem_cons_self)
      exact x1'.poke hq0 bq
  · exact hq.elim
/-- the slots after some turns -/
theorem set_again {σ : L2.St} {i j : Nat} {a b : Option V} {c : Option V} (h : i ≠ j) : (((σ.set j a).set i c).set j b) = ((σ.set j b).set i c) := by
  rw [List.set_comm _ _ h, List.set_set, List.set_comm _ _ h.symm]
theorem c_qflat (ok : ∀ refs, Good C0 H0 q refs → XOk G X N sc k (quC C0 γ0 q refs)) (hcm : calmB sc = true) (hps : PassesOwn (model X.prog X.w) X.A X.env X.xe) {il ij iq : Nat} {l z y : Str} {pz py pl pl2 pz2 pb pa : Pos} (hl : nameB N sc il l = true) (hz : nameB N sc ij z = true) (hy : nameB N sc iq y = true)
    (ll : locB sc l = true) (lz : locB sc z = true) (nl : N[il]? = some l) (nz : N[ij]? = some z) :
    PS X (.For (.Name z pz) (.Name y py) [.Assign [.Name l pl] (.BinOp (.Name l pl2) .Add (.Name z pz2) pb) pa] [] pos) (tSF C0 γ0 q B0 H0 (.qflat il ij iq)) := by
  refine ⟨fun pins s σ H Dn I h => ?_⟩
  obtain ⟨refs, B, ρ, γ, g, S, x0, hq⟩ := h
  have okr := ok refs g
  unfold exec at hq
  split at hq
  · rename_i n xs e1 e2
    obtain ⟨qs, hde, hq⟩ := hq.optS
    split at hq
    · rename_i hc
      obtain ⟨c1, c2, c3, c4, c5, c6⟩ := hc
      have fl : ∀ t (h : t < qs.length), (qs.take (t + 1)).flatten = (qs.take t).flatten ++ qs[t] := fun t h => by
        rw [List.take_succ_eq_append_getElem h, List.flatten_append]; simp
      have fle : ∀ t, (qs.take t).flatten.length ≤ qs.flatten.length := fun t => by
        have e : qs.flatten = (qs.take t).flatten ++ (qs.drop t).flatten := by rw [← List.flatten_append, List.take_append_drop]
        rw [e, List.length_append]; omega
      obtain ⟨g0, hqx, qs', eγ, hqs⟩ := id S.gh
      cases qsD_de eγ hde
      obtain ⟨v1, s1, r1⟩ := S.val iq _ (getV_of e2)
      cases r1
      obtain ⟨l0, vs0, b1, b2, b3, b4, b5, b6⟩ := S.ol il [] e1
      cases b6
      have hNz : X.N[ij]? = some z := by rw [okr.hN]; exact nz
      have hNl : X.N[il]? = some l := by rw [okr.hN]; exact nl
      have body := ps_set (pos' := pl) (pos := pa) okr.nd hNl (okr.loc ll) (pe_op (pos := pb) (bin_ok (C := noG X.K) rfl .add) (okr.name (pos := pl2) hl) (okr.name (pos := pz2) hz)) (sw_plain rfl) (okr.locF ll)
      refine (ps_for hps (okr.calm hcm) (pi_list (okr.name hy)) (pg_name okr.nd hNz (okr.loc lz) (okr.locF lz)) (pss_one body) (fun _ => rfl)).run pins s σ H Dn I ?_
      refine ⟨_, s1, q, rfl, ⟨_, .inl (.inl hqx)⟩, ?_⟩
      have rne : ∀ r ∈ q :: refs, H r ≠ none := fun r m => (quC C0 γ0 q refs).has _ _ _ S.gh (.inr m)
      refine ⟨fun t m σ' H' => m = refs.length - t ∧ t ≤ refs.length ∧ (∀ a o, H a = some o → H' a = some o) ∧ ∃ lc, σ'[il]? = some (some (.ref lc)) ∧ H' lc = some (.lst (((qs.take t).flatten).map V.int)) ∧
        (t = 0 ∧ σ' = σ ∨ 0 < t ∧ H lc = none ∧ ∃ o, σ' = (σ.set ij o).set il (some (.ref lc))), ⟨refs.length, rfl, Nat.zero_le _, fun _ _ h => h, l0, b1, b2, .inl ⟨rfl, rfl⟩⟩, ?_⟩
      rintro t m σ' H' ⟨rfl, ht, kp, lc, d1, d2, d3⟩
      have hq' := kp _ _ hqx
      have hlen : (refs.map V.ref).length = refs.length := List.length_map ..
      by_cases hlt : t < refs.length
      · have hr : refs[t]? = some refs[t] := List.getElem?_eq_getElem hlt
        have hqt : t < qs.length := by rw [hqs.1]; exact hlt
        have hqn : qs[t]? = some qs[t] := List.getElem?_eq_getElem hqt
        refine .inr ⟨⟨_, .ref refs[t], .inl (.inl hq'), by rw [List.getElem?_map, hr]; rfl⟩, _, fun σ2 H2 p => ⟨refs.length - (t + 1), by omega, p⟩, ?_⟩
        rintro x H2 ⟨rfl, hx⟩
        have hx2 := hx _ (.inl (.inl hq'))
        rw [List.getElem?_map, hr] at hx2
        cases hx2
        have hin : H2 refs[t] = some (.lst (qs[t].map V.int)) := kp _ _ (hqs.2 t _ _ hr hqn)
        have sl : σ.length = ρ.length := S.len
        have jl : il < σ'.length := (List.getElem?_eq_some_iff.mp d1).1
        have hij : ij < σ'.length := by
          rcases d3 with ⟨_, rfl⟩ | ⟨_, _, o, rfl⟩
          · rw [sl]; exact c6
          · rw [List.length_set, List.length_set, sl]; exact c6
        refine ⟨_, by rw [set_other (Ne.symm c2)]; exact d1, _, by rw [List.getElem?_set_self hij], ?_⟩
        refine ⟨fun _ => none, .non, .lst ((qs.take t).flatten.map .int), .lst (qs[t].map .int), .lst (((qs.take t).flatten ++ qs[t]).map .int), (fun _ _ h => nomatch h), trivial, .inr (.inl ⟨lc, _, _, rfl, rfl, d2, fun h => h, Reps.ofInts _⟩), .inr (.inl ⟨refs[t], _, _, rfl, rfl, hin, fun h => h, Reps.ofInts _⟩), ?_, ?_⟩
        · show (if _ then some (D.lst _) else none) = _
          rw [if_pos, List.map_append]
          rw [List.length_map, List.length_map]
          have := fle (t + 1)
          rw [fl t hqt, List.length_append] at this
          omega
        intro v B3 H3 x3 _ rv
        obtain ⟨r', vs, rfl, n1, n2, hv, rps⟩ := rv
        obtain rfl := Reps.intsD rps (intsD_map _)
        have kp3 : ∀ a o, H2 a = some o → H3 a = some o := fun a o e => x3.keep a o e fun u => u
        have kp2 : ∀ a o, H a = some o → H3 a = some o := fun a o e => kp3 _ _ (kp _ _ e)
        refine ⟨rfl, hlt, kp2, r', by rw [List.getElem?_set_self (by rw [List.length_set]; exact jl)], ?_, .inr ⟨Nat.succ_pos _, ?_, ?_⟩⟩
        · rw [hv, fl t hqt]
        · cases e : H r' with
          | none => rfl
          | some o => rw [kp _ _ e] at n1; cases n1
        · rcases d3 with ⟨_, rfl⟩ | ⟨_, _, o, rfl⟩
          · exact ⟨_, rfl⟩
          · exact ⟨some (.ref refs[t]), by rw [set_again c2, List.set_set]⟩
      · obtain rfl : t = refs.length := Nat.le_antisymm ht (Nat.le_of_not_lt hlt)
        refine .inl ⟨⟨_, .inl (.inl hq'), by rw [hlen]; exact Nat.le_refl _⟩, ?_⟩
        rcases d3 with ⟨h0, _⟩ | ⟨_, n1, o, rfl⟩
        · exact absurd (List.length_eq_zero_iff.mp (hqs.1.trans h0)) c1
        rw [List.take_of_length_le (by rw [hqs.1]; exact Nat.le_refl _)] at d2
        have xk : Ext (quC C0 γ0 q refs).U B H B H' := Ext.kept S.sub kp
        have gk : (quC C0 γ0 q refs).rep (.lst xs) H' := (quC C0 γ0 q refs).stay _ _ _ S.gh fun a u => by
          cases e : H a with
          | none => exact absurd e ((quC C0 γ0 q refs).has _ _ _ S.gh u)
          | some o => exact kp _ _ e
        have S1 := (S.ext xk gk).un ij o
        have nu : ¬ (quC C0 γ0 q refs).U lc := fun u => (quC C0 γ0 q refs).has _ _ _ S.gh u n1
        have S2 := S1.setS (i := il) (l := lc) (s := .ol (qs.flatten.map .int)) ⟨_, d2, Reps.ofInts _, S.sub.free n1, nu, x0.none_before n1⟩ (fun j t hj ht hto hσ => by
          rcases get_set ht with ⟨rfl, _, rfl⟩ | ⟨n2, ht⟩
          · cases hto
          · rw [set_other n2] at hσ
            obtain ⟨l2, e2, o2, h2, _⟩ := S.own ht hto
            rw [hσ] at e2
            cases e2
            rw [n1] at h2; cases h2)
        exact hq refs B _ _ g S2 (g.ext x0 xk) (Same.refl _)
    · exact hq.elim
  · exact hq.elim
end
end PyI

set_option maxRecDepth 100000
/-! PyI, part QI: a def with a list of lists of its own whose lists are replaced. -/
namespace PyI
open PySem PySem.Spec PyProof.Rows L2
mutual
def mF (N : List Str) (sc : Scope) : S → Stmt → Bool
  | .qcut q l, x => match x with
    | .Assign [.Subscript (.Name y _) (.Name z _) _] (.Subscript (.Subscript (.Name y2 _) (.Name z2 _) _) (.Slice (some (.Constant (.int 1) _ _)) none none _) _) _ => nameB N sc q y && nameB N sc l z && decide (y2 = y) && decide (z2 = z)
    | _ => false
  | .qflat i j q, x => match x with
    | .For (.Name z _) (.Name y _) [.Assign [.Name l _] (.BinOp (.Name l2 _) .Add (.Name z2 _) _) _] [] _ => calmB sc && nameB N sc i l && nameB N sc j z && nameB N sc q y && locB sc l && locB sc z && decide (N[i]? = some l) && decide (N[j]? = some z) && decide (l2 = l) && decide (z2 = z)
    | _ => false
  | .ift t a b, x => match x with
    | .If t' a' b' _ => mE N sc t t' && mFs N sc a a' && mFs N sc b b'
    | _ => false
  | .loop tg it b, x => match x with
    | .For tg' it' b' [] _ => calmB sc && mTg N sc tg tg' && notSet it' && noB (kI it) && (isTup tg' || plainI it) && mI N sc it it' && mFs N sc b b'
    | _ => false
  | .set i e, x => mS N sc (.set i e) x
  | .setO i e, x => mS N sc (.setO i e) x
  | .par is es, x => mS N sc (.par is es) x
  | .unp tg e, x => mS N sc (.unp tg e) x
  | .frz i, x => mS N sc (.frz i) x
  | .app i e, x => mS N sc (.app i e) x
  | .ext i e, x => mS N sc (.ext i e) x
  | .rem i e, x => mS N sc (.rem i e) x
  | .setI i k e, x => mS N sc (.setI i k e) x
  | .aug i op e, x => mS N sc (.aug i op e) x
  | .appPop i j e, x => mS N sc (.appPop i j e) x
  | .setPop i j e, x => mS N sc (.setPop i j e) x
  | .ins i a b, x => mS N sc (.ins i a b) x
  | .expr e, x => mS N sc (.expr e) x
  | .ret e, x => mS N sc (.ret e) x
  | .retN, x => mS N sc (.retN) x
  | .whil n t b, x => mS N sc (.whil n t b) x
  | .never, x => mS N sc (.never) x
  | .brk, x => mS N sc (.brk) x
  | .cont, x => mS N sc (.cont) x
  | .rai c es, x => mS N sc (.rai c es) x
  | .tri L k i e hs, x => mS N sc (.tri L k i e hs) x
def mFs (N : List Str) (sc : Scope) : List S → List Stmt → Bool
  | [], x => match x with
    | [] => true
    | _ => false
  | s :: r, x => match s, x with
    | .frz i, xs => mSs N sc (.frz i :: r) xs
    | s, y :: ys => mF N sc s y && mFs N sc r ys
    | _, _ => false
end
section
variable {C0 : Gho} {γ0 : D} {q0 : Addr} {B0 H0 : Hp} {X : Cx} {N : List Str} {sc : Scope} {k : Nat} {W : WX}
structure Fok (C0 : Gho) (γ0 : D) (q0 : Addr) (H0 : Hp) (X : Cx) (N : List Str) (sc : Scope) (k : Nat) : Prop where
  ok : ∀ refs, Good C0 H0 q0 refs → XOk isQu X N sc k (quC C0 γ0 q0 refs)
def AlF (X : Cx) (k : Nat) (P : (Str → Sem → Prop) → (Str → D → Prop) → Prop) : Prop := ∀ C : Gho, isQu C → C.K = X.K → P (Knows isQu X.prog X.w X.K X.mg X.base k) (Names X.K X.mg C)
mutual
theorem sF : ∀ (s : S) {C0 : Gho} {γ0 : D} {q0 : Addr} {B0 H0 : Hp} {X : Cx} {N : List Str} {sc : Scope} {k : Nat} {W : WX} {x : Stmt}, Fok C0 γ0 q0 H0 X N sc k → C0.K = X.K → Takes X W → SOk X → mF N sc s x = true → AlF X k (fun p q => allS p q s) → PS X x (tSF C0 γ0 q0 B0 H0 s)
  | .qcut q l, C0, γ0, q0, B0, H0, X, N, sc, k, W, x, ok, hK, tk, hp, h, al => by
    unfold mF at h; split at h
    · simp only [Bool.and_eq_true, decide_eq_true_eq] at h
      obtain ⟨⟨⟨h1, h2⟩, rfl⟩, rfl⟩ := h
      exact c_qcut ok.ok h1 h2
    · cases h
  | .qflat i j q, C0, γ0, q0, B0, H0, X, N, sc, k, W, x, ok, hK, tk, hp, h, al => by
    unfold mF at h; split at h
    · simp only [Bool.and_eq_true, decide_eq_true_eq] at h
      obtain ⟨⟨⟨⟨⟨⟨⟨⟨⟨h0, h1⟩, h2⟩, h3⟩, h4⟩, h5⟩, h6⟩, h7⟩, rfl⟩, rfl⟩ := h
      exact c_qflat ok.ok h0 hp.ps h1 h2 h3 h4 h5 h6 h7
    · cases h
  | .ift t a b, C0, γ0, q0, B0, H0, X, N, sc, k, W, x, ok, hK, tk, hp, h, al => by
    unfold mF at h; split at h
    · simp only [Bool.and_eq_true] at h
      exact c_ifF (fun refs g => sT t (ok.ok refs g) tk h.1.1 (by have h9 := al (quC C0 γ0 q0 refs) g.isQ hK; simp only [allS] at h9; exact h9.1)) (sFs a ok hK tk hp h.1.2 (fun C g e => by have h9 := al C g e; simp only [allS] at h9; exact h9.2.1)) (sFs b ok hK tk hp h.2 (fun C g e => by have h9 := al C g e; simp only [allS] at h9; exact h9.2.2))
    · cases h
  | .loop tg it b, C0, γ0, q0, B0, H0, X, N, sc, k, W, x, ok, hK, tk, hp, h, al => by
    unfold mF at h; split at h
    · simp only [Bool.and_eq_true] at h
      obtain ⟨⟨⟨⟨⟨⟨hcm, h1⟩, h2⟩, h3⟩, h4⟩, h5⟩, h6⟩ := h
      exact c_loopF ok.ok hcm (pr_of h1 h4) hp.ps h1 h2 h3 (fun refs g => sI it (ok.ok refs g) tk h5 h4 (by have h9 := al (quC C0 γ0 q0 refs) g.isQ hK; simp only [allS] at h9; exact h9.1)) (sFs b ok hK tk hp h6 (fun C g e => by have h9 := al C g e; simp only [allS] at h9; exact h9.2))
    · cases h
  | .set i e, C0, γ0, q0, B0, H0, X, N, sc, k0, W, x, ok, hK, tk, hp, h, al => liftF fun refs g => sS (.set i e) (ok.ok refs g) tk hp (by unfold mF at h; exact h) (al (quC C0 γ0 q0 refs) g.isQ hK)
  | .setO i e, C0, γ0, q0, B0, H0, X, N, sc, k0, W, x, ok, hK, tk, hp, h, al => liftF fun refs g => sS (.setO i e) (ok.ok refs g) tk hp (by unfold mF at h; exact h) (al (quC C0 γ0 q0 refs) g.isQ hK)
  | .par is es, C0, γ0, q0, B0, H0, X, N, sc, k0, W, x, ok, hK, tk, hp, h, al => liftF fun refs g => sS (.par is es) (ok.ok refs g) tk hp (by unfold mF at h; exact h) (al (quC C0 γ0 q0 refs) g.isQ hK)
  | .unp tg e, C0, γ0, q0, B0, H0, X, N, sc, k0, W, x, ok, hK, tk, hp, h, al => liftF fun refs g => sS (.unp tg e) (ok.ok refs g) tk hp (by unfold mF at h; exact h) (al (quC C0 γ0 q0 refs) g.isQ hK)
  | .frz i, C0, γ0, q0, B0, H0, X, N, sc, k0, W, x, ok, hK, tk, hp, h, al => liftF fun refs g => sS (.frz i) (ok.ok refs g) tk hp (by unfold mF at h; exact h) (al (quC C0 γ0 q0 refs) g.isQ hK)
  | .app i e, C0, γ0, q0, B0, H0, X, N, sc, k0, W, x, ok, hK, tk, hp, h, al => liftF fun refs g => sS (.app i e) (ok.ok refs g) tk hp (by unfold mF at h; exact h) (al (quC C0 γ0 q0 refs) g.isQ hK)
  | .ext i e, C0, γ0, q0, B0, H0, X, N, sc, k0, W, x, ok, hK, tk, hp, h, al => liftF fun refs g => sS (.ext i e) (ok.ok refs g) tk hp (by unfold mF at h; exact h) (al (quC C0 γ0 q0 refs) g.isQ hK)
  | .rem i e, C0, γ0, q0, B0, H0, X, N, sc, k0, W, x, ok, hK, tk, hp, h, al => liftF fun refs g => sS (.rem i e) (ok.ok refs g) tk hp (by unfold mF at h; exact h) (al (quC C0 γ0 q0 refs) g.isQ hK)
  | .setI i k e, C0, γ0, q0, B0, H0, X, N, sc, k0, W, x, ok, hK, tk, hp, h, al => liftF fun refs g => sS (.setI i k e) (ok.ok refs g) tk hp (by unfold mF at h; exact h) (al (quC C0 γ0 q0 refs) g.isQ hK)
  | .aug i op e, C0, γ0, q0, B0, H0, X, N, sc, k0, W, x, ok, hK, tk, hp, h, al => liftF fun refs g => sS (.aug i op e) (ok.ok refs g) tk hp (by unfold mF at h; exact h) (al (quC C0 γ0 q0 refs) g.isQ hK)
  | .appPop i j e, C0, γ0, q0, B0, H0, X, N, sc, k0, W, x, ok, hK, tk, hp, h, al => liftF fun refs g => sS (.appPop i j e) (ok.ok refs g) tk hp (by unfold mF at h; exact h) (al (quC C0 γ0 q0 refs) g.isQ hK)
  | .setPop i j e, C0, γ0, q0, B0, H0, X, N, sc, k0, W, x, ok, hK, tk, hp, h, al => liftF fun refs g => sS (.setPop i j e) (ok.ok refs g) tk hp (by unfold mF at h; exact h) (al (quC C0 γ0 q0 refs) g.isQ hK)
  | .ins i a b, C0, γ0, q0, B0, H0, X, N, sc, k0, W, x, ok, hK, tk, hp, h, al => liftF fun refs g => sS (.ins i a b) (ok.ok refs g) tk hp (by unfold mF at h; exact h) (al (quC C0 γ0 q0 refs) g.isQ hK)
  | .expr e, C0, γ0, q0, B0, H0, X, N, sc, k0, W, x, ok, hK, tk, hp, h, al => liftF fun refs g => sS (.expr e) (ok.ok refs g) tk hp (by unfold mF at h; exact h) (al (quC C0 γ0 q0 refs) g.isQ hK)
  | .ret e, C0, γ0, q0, B0, H0, X, N, sc, k0, W, x, ok, hK, tk, hp, h, al => liftF fun refs g => sS (.ret e) (ok.ok refs g) tk hp (by unfold mF at h; exact h) (al (quC C0 γ0 q0 refs) g.isQ hK)
  | .retN, C0, γ0, q0, B0, H0, X, N, sc, k0, W, x, ok, hK, tk, hp, h, al => liftF fun refs g => sS (.retN) (ok.ok refs g) tk hp (by unfold mF at h; exact h) (al (quC C0 γ0 q0 refs) g.isQ hK)
  | .whil n t b, C0, γ0, q0, B0, H0, X, N, sc, k0, W, x, ok, hK, tk, hp, h, al => liftF fun refs g => sS (.whil n t b) (ok.ok refs g) tk hp (by unfold mF at h; exact h) (al (quC C0 γ0 q0 refs) g.isQ hK)
  | .never, C0, γ0, q0, B0, H0, X, N, sc, k0, W, x, ok, hK, tk, hp, h, al => liftF fun refs g => sS (.never) (ok.ok refs g) tk hp (by unfold mF at h; exact h) (al (quC C0 γ0 q0 refs) g.isQ hK)
  | .brk, C0, γ0, q0, B0, H0, X, N, sc, k0, W, x, ok, hK, tk, hp, h, al => liftF fun refs g => sS (.brk) (ok.ok refs g) tk hp (by unfold mF at h; exact h) (al (quC C0 γ0 q0 refs) g.isQ hK)
  | .cont, C0, γ0, q0, B0, H0, X, N, sc, k0, W, x, ok, hK, tk, hp, h, al => liftF fun refs g => sS (.cont) (ok.ok refs g) tk hp (by unfold mF at h; exact h) (al (quC C0 γ0 q0 refs) g.isQ hK)
  | .rai c es, C0, γ0, q0, B0, H0, X, N, sc, k0, W, x, ok, hK, tk, hp, h, al => liftF fun refs g => sS (.rai c es) (ok.ok refs g) tk hp (by unfold mF at h; exact h) (al (quC C0 γ0 q0 refs) g.isQ hK)
  | .tri L k i e hs, C0, γ0, q0, B0, H0, X, N, sc, k0, W, x, ok, hK, tk, hp, h, al => liftF fun refs g => sS (.tri L k i e hs) (ok.ok refs g) tk hp (by unfold mF at h; exact h) (al (quC C0 γ0 q0 refs) g.isQ hK)
theorem sFs : ∀ (s : List S) {C0 : Gho} {γ0 : D} {q0 : Addr} {B0 H0 : Hp} {X : Cx} {N : List Str} {sc : Scope} {k : Nat} {W : WX} {x : List Stmt}, Fok C0 γ0 q0 H0 X N sc k → C0.K = X.K → Takes X W → SOk X → mFs N sc s x = true → AlF X k (fun p q => allSs p q s) → PSs X x (tSsF C0 γ0 q0 B0 H0 s)
  | [], C0, γ0, q0, B0, H0, X, N, sc, k, W, x, ok, hK, tk, hp, h, al => by
    unfold mFs at h; split at h
    · exact nilF
    · cases h
  | s :: r, C0, γ0, q0, B0, H0, X, N, sc, k, W, x, ok, hK, tk, hp, h, al => by
    unfold mFs at h
    split at h
    · exact liftFs fun refs g => sSs _ (ok.ok refs g) tk hp h (al (quC C0 γ0 q0 refs) g.isQ hK)
    · simp only [Bool.and_eq_true] at h
      exact consF (sF s ok hK tk hp h.1 (fun C g e => by have h9 := al C g e; simp only [allSs] at h9; exact h9.1)) (sFs r ok hK tk hp h.2 (fun C g e => by have h9 := al C g e; simp only [allSs] at h9; exact h9.2))
    · cases h
end
end
end PyI

set_option maxRecDepth 100000
/-! PyI, part QJ: what such a def promises. -/
namespace PyI
open PySem PySem.Spec PyProof.Rows L2
def playedT (np n : Nat) (it : I) (i1 iq i2 i3 i4 : Nat) (rest : List S) : Sem := fun ds g => if ds.length = np ∧ plains ds = true then
    match evI it (rho0 np n ds) g with
    | .ok xs g1 => if xs.length ≤ sizeLine then
        match execs rest ((((((rho0 np n ds).set i1 (.ol [])).set i2 (.ol [])).set iq (.val (.han 0))).set i3 (.val (.int 0))).set i4 (.val (.int 0))) (qsD (List.replicate xs.length [])) with
        | .rt d' _ => if plain d' = true then .ok d' g1 else .no
        | _ => .no
      else .no
    | _ => .no
  else .no
theorem playedT_of {G : Gho → Prop} {P : Program} {w : World} {K : PySem.W.Frag} {mg : Str → Option Value} {base : Heap} {x : Str} {st : Stmt} {N ps : List Str} {k : Nat} {rest : List S} {xs : List Stmt} {it : I} {i1 iq i2 i3 i4 j : Nat} {tn : List Expr} {kt k2 ka kb : Nat} {pt pt2 pa pb pc pd pe p1 pos : Pos} {tg' it' : Expr} {scope : Scope}
    (DA : DefAt K mg x st ps) (FS : FnScope N ps (defScope st))
    (hd : defBody st = .Assign [.Tuple tn kt pt] (.Tuple [.List [] pa, .ListComp (.List [] p1) [⟨tg', it', [], 0⟩] scope pc, .List [] pb, .Constant (.int 0) ka pd, .Constant (.int 0) kb pe] k2 pt2) pos :: xs)
    (ht : tgNames N (defScope st) [i1, iq, i2, i3, i4] tn = true) (hnd : [i1, iq, i2, i3, i4].Nodup) (hbk : blkC N (defScope st) scope (blkN N (.one j)) = true) (htg : mTg N scope (.one j) tg' = true) (hns : notSet it' = true) (hit : mI N (defScope st) it it' = true) (hpl : plainI it = true)
    (hb : mFs N (defScope st) rest xs = true) (hN : ps.length ≤ N.length) (hbt : ∀ x ∈ biNames, mg x = none)
    (al : ∀ C : Gho, G C → C.K = K → allI (Knows G P w K mg base k) (Names K mg C) it)
    (al' : ∀ C : Gho, isQu C → C.K = K → allSs (Knows isQu P w K mg base k) (Names K mg C) rest) (hdot : isDot x = false := by decide +kernel) :
    Knows G P w K mg base (k + 1) x (playedT ps.length N.length it i1 iq i2 i3 i4 rest) := by
  obtain ⟨a, fd, F, hmg, hbind⟩ := DA
  refine .inl ⟨hdot, k + 1, a, fd, ps, Nat.le_refl _, fnG_of F FS ?_ ?_, hmg, F.kp, hbind, ?_⟩
  · rintro vs H Q E ⟨C, B, γ, ds, _, _, _, _, _, _, _, r, hl, _⟩
    rw [r.length, hl]
  · rintro cdv A outer s H vs Q E hg hr ⟨C, B, γ, ds, hK, hG, hn, sB, g, u, hnr, r, hl, hq⟩
    have ok : XOk G (cxOf (L2.CX P w) P w K mg base N x (defScope st) a cdv A outer s H E) N (defScope st) k C :=
      { hN := rfl, nd := FS.nd, sc := fun x q h => ⟨q, h, .inl rfl⟩, calm := fun _ => rfl, nr := fun _ => hnr, er := fun L c a od h => (hnr L c a od h).elim, gd := hg, room := fun _ => hr, unt := room_unt hr, hK := hK, hG := hG, hn := hn, bt := hbt, fn := fun _ _ => rfl }
    have tk : Takes (cxOf (L2.CX P w) P w K mg base N x (defScope st) a cdv A outer s H E) (fun cls d _ H => E cls d H) := takes_of rfl rfl rfl rfl
    have alC := al C hG hK
    have pit : PI (cxOf (L2.CX P w) P w K mg base N x (defScope st) a cdv A outer s H E) tg' it' (tI C mg H (fun cls d _ H => E cls d H) it) := (all_I it).1 ok tk hit (by rw [hpl, Bool.or_true]) alC
    have pq := c_qs (p1 := p1) (pos := pc) ok (calm_of FS) hbk htg hns pit
    have ppa : PA (cxOf (L2.CX P w) P w K mg base N x (defScope st) a cdv A outer s H E) [.List [] pa, .ListComp (.List [] p1) [⟨tg', it', [], 0⟩] scope pc, .List [] pb, .Constant (.int 0) ka pd, .Constant (.int 0) kb pe] (tCons (tLst tNil) (tCons (tQs C mg H (fun cls d _ H => E cls d H) it) (tCons (tLst tNil) (tCons (tC (V.int 0)) (tCons (tC (V.int 0)) tNil))))) :=
      pa_cons (pe_lst (pos := pa) pa_nil) (pa_cons pq (pa_cons (pe_lst (pos := pb) pa_nil) (pa_cons (pe_int (pos := pd)) (pa_cons (pe_int (pos := pe)) pa_nil rfl) rfl) rfl) rfl) rfl
    obtain ⟨t1, t2, t3⟩ := g_names ok ht
    have l4 : tn.length = 5 := (tg_len ht).symm
    have h1 := ps_asg (pos := pos) (pe_tup (x1 := k2) (pos := pt2) ppa) (pg_tup (k := kt) (pos := pt) (ok.calm (calm_of FS)) t1 t2 t3) rfl (swN (by omega))
    have h2 : PSs (cxOf (L2.CX P w) P w K mg base N x (defScope st) a cdv A outer s H E) xs (fun Dn σ H1 => ∃ (γ0 : D) (q : Addr), tSsF C γ0 q B H rest Dn σ H1) := by
      refine ⟨fun pins s1 σ H1 Dn I h => ?_⟩
      obtain ⟨γ0, q, h⟩ := h
      have fok : Fok C γ0 q H (cxOf (L2.CX P w) P w K mg base N x (defScope st) a cdv A outer s H E) N (defScope st) k := ⟨fun refs gd =>
        { hN := rfl, nd := FS.nd, sc := fun x q h => ⟨q, h, .inl rfl⟩, calm := fun _ => rfl, nr := fun _ => qu_ne gd.isQ, er := fun L c a od h => (qu_ne gd.isQ L c a od h).elim, gd := hg, room := fun _ => hr, unt := room_unt hr, hK := hK, hG := gd.isQ, hn := (fun _ z => nomatch z), bt := hbt, fn := fun _ _ => rfl }⟩
      exact (sFs rest fok hK tk ⟨passes_of rfl, rfl, rfl⟩ hb fun C' g' e => al' C' g' e).run pins s1 σ H1 Dn I h
    rw [hd]
    refine ⟨_, pss_cons h1 h2, ?_⟩
    by_cases hp : plains ds = true
    case neg =>
      unfold playedT at hq
      rw [if_neg (fun z => hp z.2)] at hq
      exact hq.elim
    unfold playedT at hq
    rw [if_pos ⟨hl, hp⟩] at hq
    have S0 : St C H B (L2.start N vs) H (rho0 ps.length N.length ds) γ := start_ok hN sB u g hl r
    have flat : ∀ (i : Nat) (s : Sl), (rho0 ps.length N.length ds)[i]? = some s → plS s = true ∧ isO s = false := fun i s h => by
      rcases getv h with ⟨d, h1, rfl⟩ | rfl
      · exact ⟨plains_get hp h1, rfl⟩
      · exact ⟨rfl, rfl⟩
    generalize rho0 ps.length N.length ds = ρ at hq S0 flat
    cases e1 : evI it ρ γ with
    | exc c fs g1 => simp only [e1] at hq
    | no => simp only [e1] at hq
    | ok xs g1 =>
    simp only [e1] at hq
    by_cases hc1 : xs.length ≤ sizeLine
    case neg =>
      rw [if_neg hc1] at hq
      exact hq.elim
    rw [if_pos hc1] at hq
    refine ⟨Nat.zero_le _, fun l1 hl1 => ?_⟩
    have X1 : Ext C.U B H B (upd H l1 (.lst [])) := Ext.alloc sB hl1
    have G1 := C.stayE (o := .lst []) g hl1
    have S1 := S0.ext X1 G1
    have o1 : upd H l1 (.lst []) l1 = some (.lst []) := upd_same
    have nU1 : ¬ C.U l1 := fun q => C.has _ _ _ g q hl1
    generalize upd H l1 (.lst []) = H1 at S1 o1 X1 G1 ⊢
    refine ⟨B, ρ, γ, S1, ?_⟩
    rw [e1]
    refine ⟨hc1, fun q refs B3 H3 x3 g3 hlen nd hfr hrs hqv => ?_⟩
    have S3 := S1.ext x3 g3
    have X3 := X1.trans x3
    refine ⟨Nat.zero_le _, fun l2 hl2 => ?_⟩
    have hl20 : H l2 = none := X3.none_before hl2
    have nU2 : ¬ C.U l2 := fun q => C.has _ _ _ g3 q hl2
    have x4 : Ext C.U B3 H3 B3 (upd H3 l2 (.lst [])) := Ext.alloc S3.sub hl2
    have g4 := C.stayE (o := .lst []) g3 hl2
    have o2 : upd H3 l2 (.lst []) l2 = some (.lst []) := upd_same
    generalize upd H3 l2 (.lst []) = H4 at x4 g4 o2 ⊢
    have X4 := X3.trans x4
    have S4 := S3.ext x4 g4
    have bl2 : B3 l2 = none := S3.sub.free hl2
    refine ⟨size60 (by show 5 ≤ 60; decide), fun p hp4 => ?_⟩
    have X5 := X4.trans (Ext.alloc (o := .tup [.ref l1, .ref q, .ref l2, .int 0, .int 0]) X4.s hp4)
    have G5 := C.stayE (o := .tup [.ref l1, .ref q, .ref l2, .int 0, .int 0]) g4 hp4
    have S5 := S4.ext (Ext.alloc (o := .tup [.ref l1, .ref q, .ref l2, .int 0, .int 0]) X4.s hp4) G5
    have x45 := Ext.alloc (U := C.U) (o := .tup [.ref l1, .ref q, .ref l2, .int 0, .int 0]) X4.s hp4
    have x35 := x4.trans x45
    have hfrU : ∀ r ∈ q :: refs, ¬ C.U r := fun r hr => (hfr r hr).2.2
    have hfrH : ∀ r ∈ q :: refs, H r = none := fun r hr => X1.none_before (hfr r hr).1
    have fne : ∀ r ∈ q :: refs, H3 r ≠ none := fun r hr => by
      rcases List.mem_cons.mp hr with rfl | hr
      · rw [hqv]; exact fun z => nomatch z
      · rw [hrs r hr]; exact fun z => nomatch z
    have b5 : ∀ r ∈ q :: refs, B3 r = none := fun r hr => (hfr r hr).2.1
    have k5 : ∀ a o, H3 a = some o → ¬ C.U a → upd H4 p (.tup [.ref l1, .ref q, .ref l2, .int 0, .int 0]) a = some o := x35.keep
    have o13 : H3 l1 = some (.lst []) := x3.keep _ _ o1 nU1
    have m1 := k5 _ _ o13 nU1
    have m2 := x45.keep _ _ o2 nU2
    have n12 : l1 ≠ l2 := fun e => by rw [e, hl2] at o13; cases o13
    refine ⟨p, _, rfl, .inl (.inl upd_same), rfl, ?_⟩
    generalize upd H4 p (.tup [.ref l1, .ref q, .ref l2, .int 0, .int 0]) = H5 at S5 G5 X5 k5 m1 m2 ⊢
    refine setV_gNames rfl ?_
    have bl1 : B3 l1 = none := x3.stillNone (sB.free hl1) (by rw [o1]; exact fun z => nomatch z)
    have S6 := S5.setS (i := i1) (l := l1) (s := .ol []) ⟨.lst [], m1, Reps.nil, bl1, nU1, hl1⟩ (fun j t hj ht hto => by rw [(flat j t ht).2] at hto; cases hto)
    have S7 := S6.setS (i := i2) (l := l2) (s := .ol []) ⟨.lst [], m2, Reps.nil, bl2, nU2, hl20⟩ (fun j t hj ht hto hσ => by
      rcases get_set ht with ⟨rfl, _, _⟩ | ⟨h1, h2⟩
      · exact n12 (set_ref hσ)
      · rw [(flat j t h2).2] at hto; cases hto)
    have a1 : l1 ∉ q :: refs := fun hm => by
      have := (hfr l1 hm).1
      rw [o1] at this; cases this
    have a2 : l2 ∉ q :: refs := fun hm => fne l2 hm hl2
    have GQ : (quC C g1 q refs).rep (qsD (List.replicate xs.length [])) H5 :=
      ⟨G5, k5 _ _ hqv (hfrU q List.mem_cons_self), _, rfl, qs_rep hlen fun r hr => k5 _ _ (hrs r hr) (hfrU r (List.mem_cons_of_mem _ hr))⟩
    have S8 := S7.recast (C := C) (C' := quC C g1 q refs) rfl GQ (fun a ha => by
        rcases ha with ha | ha
        · exact S5.uB a ha
        · exact b5 a ha) (fun i s h => by
        rcases get_set h with ⟨rfl, _, rfl⟩ | ⟨_, h⟩
        · rfl
        rcases get_set h with ⟨rfl, _, rfl⟩ | ⟨_, h⟩
        · rfl
        exact (flat i s h).1) (fun i ys l h hσ => by
        rcases get_set h with ⟨rfl, _, _⟩ | ⟨n1, h⟩
        · cases set_ref hσ
          exact fun z => z.elim nU2 a2
        rw [set_other n1] at hσ
        rcases get_set h with ⟨rfl, _, _⟩ | ⟨n2, h⟩
        · cases set_ref hσ
          exact fun z => z.elim nU1 a1
        · have := (flat i _ h).2
          cases this)
    have S9 := S8.set iq (d := .han 0) (v := .ref q) (.han 0)
    have S10 := (S9.set i3 (d := .int 0) (v := .int 0) (.int 0)).set i4 (d := .int 0) (v := .int 0) (.int 0)
    have gd : Good C H q refs := ⟨nd, hfrU, hfrH⟩
    have ne : ∀ {a b : Nat}, a ∈ [i1, iq, i2, i3, i4] → True := fun _ => trivial
    have nqi : iq ≠ i2 := by
      simp only [List.nodup_cons, List.mem_cons, not_or] at hnd
      exact hnd.2.1.1
    have eσ : ((((((L2.start N vs).set i1 (some (.ref l1))).set iq (some (.ref q))).set i2 (some (.ref l2))).set i3 (some (.int 0))).set i4 (some (.int 0))) = ((((((L2.start N vs).set i1 (some (.ref l1))).set i2 (some (.ref l2))).set iq (some (.ref q))).set i3 (some (.int 0))).set i4 (some (.int 0))) := by
      rw [List.set_comm _ _ nqi]
    refine ⟨g1, q, refs, B3, (((((ρ.set i1 (.ol [])).set i2 (.ol [])).set iq (.val (.han 0))).set i3 (.val (.int 0))).set i4 (.val (.int 0))), qsD (List.replicate xs.length []), gd, ?_, X5, ?_⟩
    · show St _ _ _ ((((((L2.start N vs).set i1 (some (.ref l1))).set iq (some (.ref q))).set i2 (some (.ref l2))).set i3 (some (.int 0))).set i4 (some (.int 0))) _ _ _
      rw [eσ]
      exact S10
    generalize execs rest ((((((ρ.set i1 (.ol [])).set i2 (.ol [])).set iq (.val (.han 0))).set i3 (.val (.int 0))).set i4 (.val (.int 0)))) (qsD (List.replicate xs.length [])) = rr at hq ⊢
    cases rr with
    | rt d' g' =>
      simp only at hq
      by_cases hd' : plain d' = true
      · rw [if_pos hd'] at hq
        exact fun refs v B2 H2 _ x2 gc r2 => hq v B2 H2 x2 gc.1 (Rep.recast d' v hd' r2)
      · rw [if_neg hd'] at hq
        exact hq.elim
    | nx _ _ => simp only at hq
    | bk _ _ => simp only at hq
    | ct _ _ => simp only at hq
    | ex _ _ _ => simp only at hq
    | no => simp only at hq
  · intro ds γ h
    unfold playedT
    rw [if_neg (fun z => h z.1)]
def mT (N : List Str) (sc : Scope) (it : I) (i1 iq i2 i3 i4 j : Nat) : Stmt → Bool
  | .Assign [.Tuple tn _ _] (.Tuple [.List [] _, .ListComp (.List [] _) [⟨tg', it', [], 0⟩] scope _, .List [] _, .Constant (.int 0) _ _, .Constant (.int 0) _ _] _ _) _ => tgNames N sc [i1, iq, i2, i3, i4] tn && decide ([i1, iq, i2, i3, i4].Nodup) && blkC N sc scope (blkN N (.one j)) && mTg N scope (.one j) tg' && notSet it' && mI N sc it it' && plainI it
  | _ => false
theorem playedT_mk {G : Gho → Prop} {P : Program} {w : World} {K : PySem.W.Frag} {mg : Str → Option Value} {base : Heap} {x : Str} {st x0 : Stmt} {N ps : List Str} {k : Nat} {rest : List S} {xs : List Stmt} {it : I} {i1 iq i2 i3 i4 j : Nat}
    (DA : DefAt K mg x st ps) (FS : FnScope N ps (defScope st)) (hd : defBody st = x0 :: xs) (hq : mT N (defScope st) it i1 iq i2 i3 i4 j x0 = true) (hb : mFs N (defScope st) rest xs = true) (hN : ps.length ≤ N.length) (hbt : ∀ x ∈ biNames, mg x = none)
    (al : ∀ C : Gho, G C → C.K = K → allI (Knows G P w K mg base k) (Names K mg C) it)
    (al' : ∀ C : Gho, isQu C → C.K = K → allSs (Knows isQu P w K mg base k) (Names K mg C) rest) (hdot : isDot x = false := by decide +kernel) :
    Knows G P w K mg base (k + 1) x (playedT ps.length N.length it i1 iq i2 i3 i4 rest) := by
  unfold mT at hq
  split at hq
  · simp only [Bool.and_eq_true, decide_eq_true_eq] at hq
    obtain ⟨⟨⟨⟨⟨⟨a1, a2⟩, a3⟩, a4⟩, a5⟩, a6⟩, a7⟩ := hq
    exact playedT_of DA FS hd a1 a2 a3 a4 a5 a6 a7 hb hN hbt al al' hdot
  · cases hq
end PyI

set_option maxRecDepth 100000
/-! PyI, part SR: stars in displays and calls; defs with a star parameter. -/
namespace PyI
open PySem PySem.Spec PyProof.Rows L2
/-- what stands there when the starred ones are laid open -/
def spl : List Bool → List D → Option (List D)
  | [], [] => some []
  | true :: bs, .tup xs :: ds => (spl bs ds).map (xs ++ ·)
  | true :: bs, .lst xs :: ds => (spl bs ds).map (xs ++ ·)
  | false :: bs, d :: ds => (spl bs ds).map (d :: ·)
  | _, _ => none
def tstarS (bs : List Bool) : Sem := fun ds g => match spl bs ds with
  | some xs => if xs.length ≤ sizeLine then .ok (.tup xs) g else .no
  | none => .no
/-- the last argument is laid open -/
def lastF : List D → Option (List D)
  | [] => none
  | [.tup xs] => some xs
  | [.lst xs] => some xs
  | [_] => none
  | d :: e :: ds => (lastF (e :: ds)).map (d :: ·)
def scallS (m : Sem) : Sem := fun ds g => match lastF ds with
  | some xs => m xs g
  | none => .no
/-- so many parameters, and one for the rest -/
def starS (np : Nat) (m : Sem) : Sem := fun ds g => if np ≤ ds.length ∧ ds.length ≤ sizeLine then m (ds.take np ++ [.tup (ds.drop np)]) g else .no
section
variable {G : Gho → Prop} {X : Cx} {N : List Str} {sc : Scope} {k : Nat} {C : Gho} {W : WX} {H0 : Hp} {pos : Pos}
theorem simp_ev {e : E} {x : Expr} (hx : simpX x = true) (h : mE N sc e x = true) (ρ : Rho) (g : D) : ev e ρ g = .no ∨ ∃ d, ev e ρ g = .ok d g := by
  have o : ∀ (x : Option D), opt g x = R.no ∨ ∃ d, opt g x = .ok d g := fun x => by
    cases x with
    | none => exact .inl rfl
    | some d => exact .inr ⟨d, rfl⟩
  cases e
  case c => exact .inr ⟨_, by rw [ev]⟩
  case v => rw [ev]; exact o _
  case vb => rw [ev]; exact o _
  case g => exact .inr ⟨_, by rw [ev]⟩
  case call f m es =>
    exfalso
    unfold mE at h
    split at h
    · split at h
      · rename_i xs hm
        unfold mX mXS at hm
        cases x <;> first | (cases hx; done) | skip
        all_goals
          split at hm
          · cases hm
          · split at hm
            · cases hm
            · split at hm
              · cases hm
              · split at hm
                · cases hm
                · split at hm
                  · cases hm
                  · split at hm <;> cases hm
      · cases h
    · cases x <;> first | (cases hx; done) | (cases h; done)
  all_goals (exfalso; unfold mE at h; cases x <;> first | (cases hx; done) | (cases h; done) | (simp at h; done))
theorem simp_evs : ∀ {es : List E} {xs : List Expr}, xs.all simpX = true → mEs N sc es xs = true → ∀ (ρ : Rho) (g : D), evs es ρ g = .no ∨ ∃ ds, evs es ρ g = .ok ds g
  | [], _, _, _, ρ, g => .inr ⟨[], by rw [evs]⟩
  | e :: es, [], _, h, _, _ => by simp [mEs] at h
  | e :: es, x :: xs, hx, h, ρ, g => by
    rw [List.all_cons, Bool.and_eq_true] at hx
    simp only [mEs, Bool.and_eq_true] at h
    rw [evs]
    rcases simp_ev hx.1 h.1.1 ρ g with h1 | ⟨d, h1⟩
    · rw [h1]; exact .inl rfl
    · rcases simp_evs hx.2 h.2 ρ g with h2 | ⟨ds, h2⟩
      · rw [h1]
        refine .inl ?_
        show R.bind (evs es ρ g) _ = _
        rw [h2]; rfl
      · rw [h1]
        refine .inr ⟨d :: ds, ?_⟩
        show R.bind (evs es ρ g) _ = _
        rw [h2]; rfl
/-- the readings of a list with stars -/
def tSp (C : Gho) (mg : Str → Option Value) (H0 : Hp) (W : WX) : List Bool → List E → TA
  | true :: bs, e :: es => StX.tStar C.K (tE C mg H0 W e) (tSp C mg H0 W bs es)
  | false :: bs, e :: es => tCons (tE C mg H0 W e) (tSp C mg H0 W bs es)
  | _, _ => tNil
theorem noBs {e : E} {es : List E} (h : noB (kds (e :: es)) = true) : (kd e).le .clean = true ∧ noB (kds es) = true := by
  rw [kds] at h
  revert h
  cases kd e <;> cases kds es <;> decide
theorem pa_sp (hK : C.K = X.K) : ∀ {bs : List Bool} {es : List E} {xs ys : List Expr}, unS bs xs = some ys → PEz C X H0 W es ys → PA X xs (tSp C X.mg H0 W bs es)
  | [], es, [], ys, h, hz => by
    cases h
    cases es with
    | nil => exact pa_nil
    | cons e es => exact hz.elim
  | [], _, _ :: _, _, h, _ => by cases h
  | true :: bs, es, [], ys, h, _ => by cases h
  | true :: bs, es, x :: xs, ys, h, hz => by
    cases x <;> first | (cases h; done) | skip
    rename_i e0 p0
    rw [unS] at h
    obtain ⟨zs, h1, rfl⟩ := Option.map_eq_some_iff.mp h
    cases es with
    | nil => exact hz.elim
    | cons e es =>
      rw [tSp, hK]
      exact StX.pa_star hz.1 (pa_sp hK h1 hz.2) rfl
  | false :: bs, es, [], ys, h, _ => by cases h
  | false :: bs, es, x :: xs, ys, h, hz => by
    rw [unS] at h
    split at h
    · rename_i hs
      obtain ⟨zs, h1, rfl⟩ := Option.map_eq_some_iff.mp h
      cases es with
      | nil => exact hz.elim
      | cons e es => exact pa_cons hz.1 (pa_sp hK h1 hz.2) (starEach_cons hs)
    · cases h
theorem sp_core {mg : Str → Option Value} {σ : L2.St} {ρ : Rho} : ∀ {bs : List Bool} {es : List E} {xs ys : List Expr} {B H : Hp} {γ : D} {Q : List V → Hp → Prop}, sfxOk bs xs = true → unS bs xs = some ys → mEs N sc es ys = true → noB (kds es) = true → St C H0 B σ H ρ γ →
    Fin C mg W B σ H (evs es ρ γ) (fun ds g => ∃ zs, spl bs ds = some zs ∧ DoneC C B H g zs Q) → tSp C mg H0 W bs es σ H Q
  | [], es, xs, ys, B, H, γ, Q, hs, hu, hm, hk, S, hq => by
    cases xs with
    | cons x xs => cases hu
    | nil =>
      cases hu
      cases es with
      | cons e es => simp [mEs] at hm
      | nil =>
        rw [evs] at hq
        obtain ⟨zs, h1, h2⟩ := hq
        cases h1
        exact h2 [] B H (Ext.refl S.sub) S.gh .nil
  | true :: bs, es, xs, ys, B, H, γ, Q, hs, hu, hm, hk, S, hq => by
    cases xs with
    | nil => cases hu
    | cons x xs =>
      cases x <;> first | (cases hu; done) | skip
      rename_i e0 p0
      rw [unS] at hu
      obtain ⟨zs0, h1, rfl⟩ := Option.map_eq_some_iff.mp hu
      cases es with
      | nil => simp [mEs] at hm
      | cons e es =>
        simp only [mEs, Bool.and_eq_true] at hm
        obtain ⟨k1, k2⟩ := noBs hk
        rw [evs] at hq
        refine ⟨B, ρ, γ, S, hq.bind.imp fun d g h2 => Done.le (k := .clean) k1 fun v B1 H1 x1 g1 r1 => ?_⟩
        have S1 := S.ext x1 g1
        have un : ∀ {bs : List Bool} {xs ys : List Expr}, xs.all simpX = true → unS bs xs = some ys → ys.all simpX = true := by
          intro bs
          induction bs with
          | nil => intro xs ys _ h; cases xs <;> cases h; rfl
          | cons b bs ih =>
            intro xs ys ha h
            cases xs with
            | nil => cases b <;> cases h
            | cons x xs =>
              rw [List.all_cons, Bool.and_eq_true] at ha
              cases b with
              | true => cases x <;> first | (cases h; done) | (cases ha.1; done)
              | false =>
                rw [unS] at h
                split at h
                · obtain ⟨ws, w1, rfl⟩ := Option.map_eq_some_iff.mp h
                  rw [List.all_cons, Bool.and_eq_true]
                  exact ⟨ha.1, ih ha.2 w1⟩
                · cases h
        rcases simp_evs (un (show xs.all simpX = true from hs) h1) hm.2 ρ g with hev | ⟨ds, hev⟩
        · rw [hev] at h2; exact h2.elim
        rw [hev] at h2
        obtain ⟨zs, h3, h4⟩ := (show ∃ zs, spl (true :: bs) (d :: ds) = some zs ∧ DoneC C B H g zs Q from h2)
        have go : ∀ (a : Addr) (vs : List V) (xs0 : List D), (SqT C.K H1 a vs ∨ SqL C.K H1 a vs) → Reps C.K C.hv B1 vs xs0 → (spl bs ds).map (xs0 ++ ·) = some zs → ∃ p us, V.ref a = V.ref p ∧ (SqT C.K H1 p us ∨ SqL C.K H1 p us) ∧ tSp C mg H0 W bs es σ H1 fun ys H2 => Q (us ++ ys) H2 := by
          intro a vs xs0 hsq hr hz
          obtain ⟨ws, w1, rfl⟩ := Option.map_eq_some_iff.mp hz
          refine ⟨a, vs, rfl, hsq, sp_core (bs := bs) ?_ h1 hm.2 k2 S1 ?_⟩
          · have : ∀ (bs : List Bool) (xs : List Expr), xs.all simpX = true → sfxOk bs xs = true := by
              intro bs
              induction bs with
              | nil => intro xs _; unfold sfxOk; rfl
              | cons b bs ih =>
                intro xs ha
                cases xs with
                | nil => cases b <;> rfl
                | cons x xs =>
                  rw [List.all_cons, Bool.and_eq_true] at ha
                  cases b with
                  | true => exact ha.2
                  | false => exact ih xs ha.2
            exact this bs xs hs
          · rw [hev]
            exact ⟨ws, w1, fun vs' B2 H2 x2 g2 r2 => h4 _ B2 H2 (x1.trans x2) g2 (Reps.append (Reps.mono x2.b _ _ hr) r2)⟩
        cases d <;> first | (cases h3; done) | skip
        · cases r1 with
          | tup a r => exact go _ _ _ (.inl (a.mono x1.s).t) r h3
        · cases r1 with
          | lst a r => exact go _ _ _ (.inr (SqL.of (x1.s _ _ a))) r h3
  | false :: bs, es, xs, ys, B, H, γ, Q, hs, hu, hm, hk, S, hq => by
    cases xs with
    | nil => cases hu
    | cons x xs =>
      rw [unS] at hu
      split at hu
      · obtain ⟨zs0, h1, rfl⟩ := Option.map_eq_some_iff.mp hu
        cases es with
        | nil => simp [mEs] at hm
        | cons e es =>
          simp only [mEs, Bool.and_eq_true] at hm
          obtain ⟨k1, k2⟩ := noBs hk
          rw [evs] at hq
          refine ⟨B, ρ, γ, S, hq.bind.imp fun d g h2 => Done.le (k := .clean) k1 fun v B1 H1 x1 g1 r1 => ?_⟩
          have S1 := S.ext x1 g1
          refine sp_core (bs := bs) hs h1 hm.2 k2 S1 ((h2.ext x1).bind.imp fun ds g2 h3 => ?_)
          obtain ⟨zs, h3, h4⟩ := (show ∃ zs, spl (false :: bs) (d :: ds) = some zs ∧ DoneC C B H g2 zs Q from h3)
          obtain ⟨ws, w1, rfl⟩ := Option.map_eq_some_iff.mp h3
          exact ⟨ws, w1, fun vs' B2 H2 x2 g3 r2 => h4 _ B2 H2 (x1.trans x2) g3 (.cons (Rep.mono x2.b _ _ r1) r2)⟩
      · cases hu
/-- a display with stars -/
theorem kn_tstar {P : Program} {w : World} {K : PySem.W.Frag} {mg : Str → Option Value} {base : Heap} {k0 : Nat} {f : Str} {r : List Nat} (hf : f.cps.toList = 46 :: 116 :: r) : KnowsX G P w K mg base k0 f (tstarS (r.map fun c => decide (c = 49))) := by
  intro X N sc C W H0 x xs es ok hcm tk hP hw hK hmg hbase hx hsm hm hB hz
  have hx : mXS sc f x = some xs := by
    unfold mX at hx
    split at hx
    · rename_i e; subst e; cases hf
    split at hx
    · rename_i e; subst e; cases hf
    split at hx
    · rename_i e; subst e; cases hf
    split at hx
    · rename_i e; subst e; cases hf
    split at hx
    · rename_i e; subst e; cases hf
    · exact hx
  unfold mXS at hx
  rw [hf] at hx
  simp only at hx
  split at hx
  · rename_i ys kk p _
    split at hx
    · rename_i hs
      generalize r.map (fun c => decide (c = 49)) = bs at hs hx ⊢
      have main : PE X (.Tuple ys kk p) (tE C X.mg H0 W (.call f (tstarS bs) es)) := by
        refine ⟨fun pins s σ H Q I hq => ?_⟩
        obtain ⟨B, ρ, γ, S, hq⟩ := hq
        refine (peF_tup (x1 := kk) (pos := p) (pa_sp ok.hK hx hz)).run pins s σ H Q I (sp_core hs hx hm hB S ?_)
        rw [ev] at hq
        refine hq.bind.imp fun ds g h => ?_
        unfold tstarS at h
        split at h
        · rename_i zs hz
          split at h
          · rename_i hl
            refine ⟨zs, hz, fun vs B' H' x1 g1 r1 => ⟨by rw [r1.length]; exact hl, ?_⟩⟩
            have h : Done C B H g .clean (.tup zs) Q := h
            exact Done.newT (k := .clean) x1.s g1 (h.ext x1) r1
          · exact h.elim
        · exact h.elim
      exact ⟨main, t_val rfl main⟩
    · cases hx
  · cases hx
theorem flags_last : ∀ {xs : List Expr}, (flagsOf xs).dropLast.all (!·) = true → (flagsOf xs).getLast? = some true → (∃ e p, xs = [.Starred e p]) ∨ ∃ x y ys, xs = x :: y :: ys ∧ notStar x = true ∧ (flagsOf (y :: ys)).dropLast.all (!·) = true ∧ (flagsOf (y :: ys)).getLast? = some true
  | [], _, h => by cases h
  | [x], _, h => by
    have : (!notStar x) = true := by simpa [flagsOf] using h
    cases x <;> first | exact .inl ⟨_, _, rfl⟩ | cases this
  | x :: y :: ys, h1, h2 => by
    refine .inr ⟨x, y, ys, rfl, ?_, ?_, ?_⟩
    · have : (!(!notStar x)) = true := by
        have h1' : ((!notStar x) :: flagsOf (y :: ys)).dropLast.all (!·) = true := h1
        rw [show flagsOf (y :: ys) = (!notStar y) :: flagsOf ys from rfl, List.dropLast_cons₂, List.all_cons, Bool.and_eq_true] at h1'
        exact h1'.1
      rwa [Bool.not_not] at this
    · have h1' : ((!notStar x) :: (!notStar y) :: flagsOf ys).dropLast.all (!·) = true := h1
      rw [List.dropLast_cons₂, List.all_cons, Bool.and_eq_true] at h1'
      exact h1'.2
    · have h2' : ((!notStar x) :: (!notStar y) :: flagsOf ys).getLast? = some true := h2
      rw [List.getLast?_cons_cons] at h2'
      exact h2'
theorem flags_any {env : PySem.Env} (pos : Pos) : ∀ {xs : List Expr}, (flagsOf xs).getLast? = some true → (backTo pos (starEach xs env)).any (·.1) = true
  | [], h => by cases h
  | x :: xs, h => by
    cases xs with
    | nil =>
      have : (!notStar x) = true := by simpa [flagsOf] using h
      cases x <;> first | rfl | cases this
    | cons y ys =>
      have h2' : ((!notStar x) :: (!notStar y) :: flagsOf ys).getLast? = some true := h
      rw [List.getLast?_cons_cons] at h2'
      have := flags_any (env := env) pos (xs := y :: ys) h2'
      by_cases hs : notStar x = true
      · rw [starEach_cons hs]
        show (false || (backTo pos (starEach (y :: ys) env)).any (·.1)) = true
        rw [this]; rfl
      · cases x <;> first | exact absurd rfl hs | rfl
theorem sfx_flags : ∀ {xs : List Expr}, (flagsOf xs).dropLast.all (!·) = true → (flagsOf xs).getLast? = some true → sfxOk (flagsOf xs) xs = true
  | [], _, h => by cases h
  | [x], _, h => by
    have : (!notStar x) = true := by simpa [flagsOf] using h
    show sfxOk [!notStar x] [x] = true
    rw [this]; rfl
  | x :: y :: ys, h1, h2 => by
    rcases flags_last h1 h2 with ⟨e, p, h⟩ | ⟨x', y', ys', h, hs, a1, a2⟩
    · cases h
    · cases h
      show sfxOk ((!notStar x) :: flagsOf (y :: ys)) (x :: y :: ys) = true
      rw [hs]
      exact sfx_flags a1 a2
theorem lastF_spl : ∀ {xs : List Expr} {ds : List D} {zs : List D}, (flagsOf xs).dropLast.all (!·) = true → (flagsOf xs).getLast? = some true → ds.length = xs.length → lastF ds = some zs → spl (flagsOf xs) ds = some zs
  | [], _, _, _, h, _, _ => by cases h
  | [x], ds, zs, _, h, hl, hz => by
    have hx : (!notStar x) = true := by simpa [flagsOf] using h
    match ds, hl with
    | [d], _ =>
      show spl [!notStar x] [d] = some zs
      rw [hx]
      cases d <;> first | (cases hz; done) | skip
      · cases hz; simp [spl]
      · cases hz; simp [spl]
  | x :: y :: ys, ds, zs, h1, h2, hl, hz => by
    rcases flags_last h1 h2 with ⟨e, p, h⟩ | ⟨x', y', ys', h, hs, a1, a2⟩
    · cases h
    · cases h
      match ds, hl with
      | d :: e :: ds, hl =>
        have hz : (lastF (e :: ds)).map (d :: ·) = some zs := by
          cases d <;> exact hz
        obtain ⟨ws, w1, rfl⟩ := Option.map_eq_some_iff.mp hz
        show spl ((!notStar x) :: flagsOf (y :: ys)) (d :: e :: ds) = _
        rw [hs]
        show (spl (flagsOf (y :: ys)) (e :: ds)).map (d :: ·) = _
        rw [lastF_spl a1 a2 (by simpa using hl) w1]; rfl
/-- a call whose last argument is laid open -/
theorem kn_scall {P : Program} {w : World} {K : PySem.W.Frag} {mg : Str → Option Value} {base : Heap} {k0 : Nat} {f f0 : Str} {m : Sem} (hf : f.cps.toList = 46 :: 42 :: f0.cps.toList) (kn : KnowsH G P w K mg base k0 f0 m) : KnowsX G P w K mg base k0 f (scallS m) := by
  intro X N sc C W H0 x xs es ok hcm tk hP hw hK hmg hbase hx hsm hm hB hz
  subst hP hw hK hmg hbase
  have hx : mXS sc f x = some xs := by
    unfold mX at hx
    split at hx
    · rename_i e; subst e; cases hf
    split at hx
    · rename_i e; subst e; cases hf
    split at hx
    · rename_i e; subst e; cases hf
    split at hx
    · rename_i e; subst e; cases hf
    split at hx
    · rename_i e; subst e; cases hf
    · exact hx
  unfold mXS at hx
  rw [hf] at hx
  simp only at hx
  split at hx
  · rename_i y p ys q _
    split at hx
    · rename_i hs
      simp only [Bool.and_eq_true, decide_eq_true_eq] at hs
      obtain ⟨⟨⟨hy, hg⟩, hd⟩, hlast⟩ := hs
      have hy : y = f0 := by rw [hy, Array.toArray_toList]
      subst hy
      obtain ⟨j, a, hj, F, hmgf, hk⟩ := kn
      obtain ⟨g1, g2, _⟩ := ok.gl hg
      have hr := (ok.room hcm).mono hj
      have len_un : ∀ {bs : List Bool} {xs ys : List Expr}, unS bs xs = some ys → ys.length = xs.length := by
        intro bs
        induction bs with
        | nil => intro xs ys h; cases xs <;> cases h; rfl
        | cons b bs ih =>
          intro xs ys h
          cases xs with
          | nil => cases b <;> cases h
          | cons x xs =>
            cases b with
            | true =>
              cases x <;> first | (cases h; done) | skip
              rw [unS] at h
              obtain ⟨ws, w1, rfl⟩ := Option.map_eq_some_iff.mp h
              simp [ih w1]
            | false =>
              rw [unS] at h
              split at h
              · obtain ⟨ws, w1, rfl⟩ := Option.map_eq_some_iff.mp h
                simp [ih w1]
              · cases h
      have main : PE X (.Call (.Name y p) ys [] q) (tE C X.mg H0 W (.call f (scallS m) es)) := by
        refine ⟨fun pins s σ H Q I hq => ?_⟩
        obtain ⟨B, ρ, γ, S, hq⟩ := hq
        rw [ev] at hq
        have ppa := pa_sp (W := W) (H0 := H0) ok.hK hx hz
        have go : tSp C X.mg H0 W (flagsOf ys) es σ H (fun vs H1 => spH G X.K X.mg m vs H1 Q fun cls od H' => W cls od σ H') := by
          refine sp_core (sfx_flags hd hlast) hx hm hB S (hq.bind.with.imp fun ds g h => ?_)
          obtain ⟨he, h⟩ := h
          unfold scallS at h
          split at h
          · rename_i zs hzs
            refine ⟨zs, lastF_spl hd hlast (by rw [evs_len he, mEs_len hm, len_un hx]) hzs, fun vs B1 H1 x1 g1' r1 => ?_⟩
            refine ⟨C, B1, g, zs, ok.hK, ok.hG, ok.hn, x1.s, g1', (S.ext x1 g1').uB, ok.nr hcm, r1, ?_⟩
            cases hr : m zs g with
            | ok d g2 =>
              rw [hr] at h
              exact (show Done C B H g2 .clean d Q from h).ext x1
            | exc c fs g2 =>
              rw [hr] at h
              exact fun cls od B' H' y g' e => h cls od B' H' (x1.trans y) g' e
            | no => rw [hr] at h; exact h.elim
          · exact h.elim
        refine wpAny_Call_Name_kw (ld_glob I g1 hmgf ?_ g2)
        rcases flags_last hd hlast with ⟨e0, p0, rfl⟩ | ⟨x', y', ys', rfl, hs', a1, a2⟩
        · match es, hm, hB, go, hx with
          | [e], hm, hB, go, hx =>
            cases hx
            have he := hz.1
            refine PySem.W.callWith_S (h₀ := X.base) I.ok.mod.kin hk (thn (he.run pins s σ H _ I go) fun v s1 ⟨y0, H1, I1, ry, a1, us1, ey, hus, q1⟩ => ?_) rfl
            subst ey
            cases ry
            refine StX.star_any I1 (by rw [← ok.hK]; exact hus) fun us s2 I2 rv => ⟨I2.kIn, runH F ok.gd hr tk I2 rv ?_⟩
            have q1 : spH G X.K X.mg m (us1 ++ []) H1 Q _ := q1
            rwa [List.append_nil] at q1
          | [], hm, hB, go, hx => cases hx; simp [mEs] at hm
          | _ :: _ :: _, hm, hB, go, hx => cases hx; simp [mEs] at hm
        · refine PySem.W.callWith_S2 (h₀ := X.base) I.ok.mod.kin hk (thn (ppa.run q pins s σ H _ I go) fun us s1 h1 => ?_) (starEach_cons hs') (flags_any q a2)
          obtain ⟨vs, H1, I1, r, q1⟩ := h1
          exact ⟨I1.kIn, runH F ok.gd hr tk I1 r q1⟩
      exact ⟨main, t_val rfl main⟩
    · cases hx
  · cases hx
end
end PyI

set_option maxRecDepth 100000
/-! PyI, part SS: a def with a star parameter. -/
namespace PyI
open PySem PySem.Spec PyProof.Rows L2
def BindS (fd : FuncData) (ps : List Str) (pv : Str) : Prop := ∀ us rest : List Value, us.length = ps.length → bindArgs fd ⟨us ++ rest, []⟩ = (newTuple rest >>= fun t => pure (ps.zip us ++ [(pv, t)]))
def DefStar (K : PySem.W.Frag) (mg : Str → Option Value) (x : Str) (st : Stmt) (ps : List Str) (pv : Str) : Prop := ∃ (a : Addr) (fd : FuncData), Fun K x x st a fd ∧ mg x = some (.ref a) ∧ BindS fd ps pv
theorem vals_cut {vs : List V} {us : List Value} (r : Vals vs us) (n : Nat) : Vals (vs.take n) (us.take n) ∧ Vals (vs.drop n) (us.drop n) := ⟨r.take n, r.drop n⟩
theorem know_star {G : Gho → Prop} {P : Program} {w : World} {K : PySem.W.Frag} {mg : Str → Option Value} {base : Heap} {x pv : Str} {st : Stmt} {N ps : List Str} {k : Nat} {body : List S} (DA : DefStar K mg x st ps pv) (FS : FnScope N (ps ++ [pv]) (defScope st))
    (hb : mSs N (defScope st) body (defBody st) = true) (hN : ps.length + 1 ≤ N.length) (hbt : ∀ x ∈ biNames, mg x = none) (al : ∀ C : Gho, G C → C.K = K → allSs (Knows G P w K mg base k) (Names K mg C) body) (hdot : isDot x = false := by decide +kernel) :
    Knows G P w K mg base (k + 1) x (starS ps.length (fnD (ps.length + 1) N.length body)) := by
  obtain ⟨a, fd, F, hmg, hbind⟩ := DA
  refine .inr (.inr (.inl ⟨hdot, k + 1, a, Nat.le_refl _, ⟨?_⟩, hmg, F.kp⟩))
  intro A outer s H us vs Q E hg hr e0 r hsp
  obtain ⟨C, B, γ, ds, hK, hG, hn, sB, g, u, hnr, rr, hq⟩ := hsp
  unfold starS at hq
  by_cases hc : ps.length ≤ ds.length ∧ ds.length ≤ sizeLine
  case neg =>
    rw [if_neg hc] at hq
    exact hq.elim
  rw [if_pos hc] at hq
  obtain ⟨hc1, hc2⟩ := hc
  have hvd := rr.length
  have hvu := r.length
  obtain ⟨r1, r2⟩ := vals_cut r ps.length
  have hz2 : (vs.drop ps.length).length ≤ sizeLine := by
    rw [List.length_drop]; omega
  have hu1 : (us.take ps.length).length = ps.length := by rw [List.length_take]; omega
  have hu2 : (us.drop ps.length).length ≤ sizeLine := by rw [← r2.length]; exact hz2
  obtain ⟨oc, od, kV, doc, pm, an, cdv, ct, osl, rfl, lk, hcd⟩ := F.ex
  refine StX.run_bnd (G := fun xs H2 => ∃ (p : Addr) (o : Obj), H p = none ∧ o.dict = none ∧ xs = vs.take ps.length ++ [V.ref p] ∧ H2 = upd H p (.frz o (.tup (vs.drop ps.length)))) lk hcd FS hr e0 ?_ ?_
  · intro A' Ex Q' h
    have e1 : bindArgs (PySem.W.fnOf x x (defArgs st) (defBody st) (defScope st) .none kV doc pm an cdv ct) ⟨us, []⟩ = (newTuple (us.drop ps.length) >>= fun t => pure (ps.zip (us.take ps.length) ++ [(pv, t)])) := by
      rw [← hbind _ _ hu1, List.take_append_drop]
    rw [e1]
    have hfr := e0.hok.fresh (Nat.le_refl s.heap.objs.size)
    refine wpAny_bind (wpAny_newTuple (wpAny_pure ?_) hu2)
    let o : Obj := { cls := .type "tuple", data := .seq (us.drop ps.length).toArray }
    let ho : HO := .frz o (.tup (vs.drop ps.length))
    have lay : ObjOk P w (upd H s.heap.objs.size ho) (s.heap.push o) s.heap.objs.size ho := ⟨Heap.get?_push_size _ rfl, hz2, _, r2, IsTup.new _ _⟩
    have hun := StX.un_laid (fs := frs outer) (o := o) (u := ho) hfr
    have fin := h { s with heap := s.heap.push o } (upd H s.heap.objs.size ho) (vs.take ps.length ++ [V.ref s.heap.objs.size]) (us.take ps.length ++ [Value.ref s.heap.objs.size]) (StX.env0_laid e0 lay) hun rfl
      (fun e s' => StX.cxUp outer s H _ _ E e s' hun (fun _ _ q => Heap.get?_push_of_some _ q) rfl) (r1.append (.cons rfl .nil))
    rw [List.zip_append hu1.symm] at fin
    refine fin ?_ ⟨s.heap.objs.size, o, hfr, rfl, rfl, rfl⟩
    simp only [List.length_append, List.length_take, List.length_singleton]
    omega
  · rintro s2 H2 xs ⟨p, o, hp, hod, rfl, rfl⟩ hr'
    have ok : XOk G (cxOf (L2.CX P w) P w K mg base N x (defScope st) a cdv A outer s2 (upd H p (.frz o (.tup (vs.drop ps.length)))) E) N (defScope st) k C :=
      { hN := rfl, nd := FS.nd, sc := fun x q h => ⟨q, h, .inl rfl⟩, calm := fun _ => rfl, nr := fun _ => hnr, er := fun L c a od h => (hnr L c a od h).elim, gd := hg, room := fun _ => hr', unt := room_unt hr', hK := hK, hG := hG, hn := hn, bt := hbt, fn := fun _ _ => rfl }
    have tk : Takes (cxOf (L2.CX P w) P w K mg base N x (defScope st) a cdv A outer s2 (upd H p (.frz o (.tup (vs.drop ps.length)))) E) (fun cls d _ H => E cls d H) := takes_of rfl rfl rfl rfl
    have X1 : Ext C.U B H (upd B p (.frz o (.tup (vs.drop ps.length)))) (upd H p (.frz o (.tup (vs.drop ps.length)))) := Ext.allocB sB hp
    have G1 := C.stayE (o := .frz o (.tup (vs.drop ps.length))) g hp
    have rest : Rep C.K C.hv (upd B p (.frz o (.tup (vs.drop ps.length)))) (V.ref p) (.tup (ds.drop ps.length)) := .tup ⟨o, hod, .inl upd_same⟩ (Reps.mono X1.b _ _ (rr.drop _))
    have args : Reps C.K C.hv (upd B p (.frz o (.tup (vs.drop ps.length)))) (vs.take ps.length ++ [V.ref p]) (ds.take ps.length ++ [.tup (ds.drop ps.length)]) := Reps.append (Reps.mono X1.b _ _ (rr.take _)) (.cons rest .nil)
    have hl : (ds.take ps.length ++ [D.tup (ds.drop ps.length)]).length = ps.length + 1 := by
      simp only [List.length_append, List.length_take, List.length_singleton]
      omega
    refine ⟨_, sSs body ok tk ⟨passes_of rfl, rfl, rfl⟩ hb (al C hG hK), _, _, γ, start_ok hN X1.s (X1.uB g u) G1 hl args, Ext.refl X1.s, ?_⟩
    unfold fnD at hq
    rw [if_pos hl] at hq
    cases e : execs body ((ds.take ps.length ++ [D.tup (ds.drop ps.length)]).map .val ++ List.replicate (N.length - (ps.length + 1)) .un) γ with
    | nx ρ1 g1 => simp only [e] at hq; exact fun B' σ' H' S x _ => hq .non B' H' (X1.trans x) S.gh .non
    | rt d g1 => simp only [e] at hq; exact fun v B' H' x g r => hq v B' H' (X1.trans x) g r
    | ex c fs g1 => simp only [e] at hq; exact fun cls od σ' B' H' x g q => hq cls od B' H' (X1.trans x) g q
    | bk ρ1 g1 => simp only [e] at hq
    | ct ρ1 g1 => simp only [e] at hq
    | no => simp only [e] at hq
theorem bindS0 {fd : FuncData} {pv : Str} (h0 : bindArgs fd ⟨[], []⟩ = (newTuple [] >>= fun t => pure [(pv, t)])) (h1 : ∀ r rs, bindArgs fd ⟨r :: rs, []⟩ = (newTuple (r :: rs) >>= fun t => pure [(pv, t)])) : BindS fd [] pv
  | [], [], _ => h0
  | [], r :: rs, _ => h1 r rs
theorem bindS1 {fd : FuncData} {p1 pv : Str} (h0 : ∀ a, bindArgs fd ⟨[a], []⟩ = (newTuple [] >>= fun t => pure [(p1, a), (pv, t)])) (h1 : ∀ a r rs, bindArgs fd ⟨a :: r :: rs, []⟩ = (newTuple (r :: rs) >>= fun t => pure [(p1, a), (pv, t)])) : BindS fd [p1] pv
  | [a], [], _ => h0 a
  | [a], r :: rs, _ => h1 a r rs
theorem bindS2 {fd : FuncData} {p1 p2 pv : Str} (h0 : ∀ a b, bindArgs fd ⟨[a, b], []⟩ = (newTuple [] >>= fun t => pure [(p1, a), (p2, b), (pv, t)])) (h1 : ∀ a b r rs, bindArgs fd ⟨a :: b :: r :: rs, []⟩ = (newTuple (r :: rs) >>= fun t => pure [(p1, a), (p2, b), (pv, t)])) : BindS fd [p1, p2] pv
  | [a, b], [], _ => h0 a b
  | [a, b], r :: rs, _ => h1 a b r rs
theorem mk_star {K : PySem.W.Frag} {mg : Str → Option Value} {h : Heap} {x pv : Str} {st : Stmt} {ps : List Str} {f : Addr} {oc kV dc pm cd ct : Value} {od an : Option Addr} {sl : Array (Option Value)} (KX : K.In h) (Gn : h.Ns mainGlobals mg)
    (b : ∀ (kV doc pm : Value) (an : Option Addr) (cdv ct : Value), BindS (PySem.W.fnOf x x (defArgs st) (defBody st) (defScope st) .none kV doc pm an cdv ct) ps pv)
    (a1 : PySem.W.nsIn K mainGlobals x = some (some (.ref f))) (l1 : K.lookup f = some ⟨oc, od, .func (PySem.W.fnOf x x (defArgs st) (defBody st) (defScope st) .none kV dc pm an cd ct), sl⟩) (c1 : PySem.W.codeIn K cd x = true) (k1 : PySem.W.keepIn K (.ref f) = true) : DefStar K mg x st ps pv :=
  ⟨f, _, fun_mk l1 c1 k1, PySem.W.mg_of KX Gn a1, b _ _ _ _ _ _⟩
/-- a def that is known for any number of arguments, from its fixed number -/
theorem Knows.scall {G : Gho → Prop} {P : Program} {w : World} {K : PySem.W.Frag} {mg : Str → Option Value} {base : Heap} {k : Nat} {f f0 : Str} {m : Sem} (h : Knows G P w K mg base k f0 m) (hf : f.cps.toList = 46 :: 42 :: f0.cps.toList) (hd : isPat f = true := by decide +kernel) (hd0 : isDot f0 = false := by decide +kernel) : Knows G P w K mg base k f (scallS m) := by
  rcases h with ⟨_, h⟩ | ⟨h, _⟩ | ⟨_, h⟩ | ⟨rfl, _⟩ | ⟨rfl, _⟩
  · obtain ⟨j, a, fd, ps, hj, F, hmg, hk, hb, har⟩ := h
    refine .inr (.inl ⟨hd, kn_scall hf ⟨j, a, hj, ⟨?_⟩, hmg, hk⟩⟩)
    intro A outer s H us vs Q E hg hr e0 r hsp
    obtain ⟨C, B, γ, ds, hK, hG, hn, sB, g, u, hnr, rr, hq⟩ := hsp
    have hl : ds.length = ps.length := by
      by_cases e : ds.length = ps.length
      · exact e
      · rw [har ds γ e] at hq; exact hq.elim
    have e1 := rr.length
    have e2 := r.length
    have b := hb s us (e0.mod.kin.keeps fun b o e => (e0.bs b o e).1) (by rw [List.append_nil]; omega)
    rw [List.append_nil] at b
    exact F.run A outer s H ⟨us, []⟩ us vs Q E hg hr e0 b r ⟨C, B, γ, ds, hK, hG, hn, sB, g, u, hnr, rr, hl, hq⟩
  · rw [isPat_dot h] at hd0; cases hd0
  · exact .inr (.inl ⟨hd, kn_scall hf h⟩)
  · cases hd0
  · cases hd0
theorem know_ts {G : Gho → Prop} {P : Program} {w : World} {K : PySem.W.Frag} {mg : Str → Option Value} {base : Heap} {k : Nat} {f : Str} {r : List Nat} (hf : f.cps.toList = 46 :: 116 :: r) (hd : isPat f = true := by decide +kernel) : Knows G P w K mg base k f (tstarS (r.map fun c => decide (c = 49))) := .inr (.inl ⟨hd, kn_tstar hf⟩)
theorem know_tB {G : Gho → Prop} {P : Program} {w : World} {K : PySem.W.Frag} {mg : Str → Option Value} {base : Heap} {k : Nat} {f : Str} {bs : List Bool} (hf : f.cps.toList = 46 :: 116 :: bs.map fun b => if b then 49 else 48) (hd : isPat f = true := by decide +kernel) : Knows G P w K mg base k f (tstarS bs) := by
  have := know_ts (G := G) (P := P) (w := w) (K := K) (mg := mg) (base := base) (k := k) hf hd
  have e : (bs.map fun b => if b then 49 else 48).map (fun c => decide (c = 49)) = bs := by
    rw [List.map_map]
    refine (List.map_congr_left fun b _ => ?_).trans (List.map_id bs)
    cases b <;> rfl
  rwa [e] at this
end PyI

set_option maxRecDepth 100000
/-! PyI, part ST: texts as lists of signs. -/
namespace PyI
open PySem PySem.Spec PyProof.Rows L2 TL
def ch (c : Nat) : D := .str ⟨#[c]⟩
def chs (z : Str) : List Nat := z.cps.toList
def SN (L : Nat) (z : Str) : Prop := (chs z).length ≤ L ∧ ∀ c ∈ chs z, c < 1000
theorem chs_len (z : Str) : (chs z).length = z.length := Array.length_toList
theorem chs_app (x y : Str) : chs (x ++ y) = chs x ++ chs y := by
  unfold chs
  rw [PySem.Str.cps_append, Array.toList_append]
theorem chs_rev (z : Str) : chs (revS z) = (chs z).reverse := rfl
theorem chs_cut (z : Str) (lo hi : Option Int) : chs (cutS z lo hi) = cutG (chs z) lo hi := by
  unfold chs
  show ((z.cps.toList.drop (HT.sIx z.length 0 lo)).take (HT.sIx z.length z.length hi - HT.sIx z.length 0 lo)).toArray.toList = _
  unfold cutG
  rw [show z.cps.toList.length = z.length from Array.length_toList]
theorem SN.app {L M : Nat} {x y : Str} (h : SN L x) (k : SN M y) : SN (L + M) (x ++ y) := by
  unfold SN
  rw [chs_app]
  exact ⟨by rw [List.length_append]; have := h.1; have := k.1; omega, fun c hc => by
    rcases List.mem_append.mp hc with hc | hc
    · exact h.2 c hc
    · exact k.2 c hc⟩
theorem SN.cut {L : Nat} {x : Str} {lo hi : Option Int} (h : SN L x) : SN L (cutS x lo hi) := by
  unfold SN
  rw [chs_cut]
  exact ⟨Nat.le_trans cut_len h.1, fun c hc => h.2 c (cut_mem hc)⟩
theorem SN.rev {L : Nat} {x : Str} (h : SN L x) : SN L (revS x) := by
  unfold SN
  rw [chs_rev]
  exact ⟨by rw [List.length_reverse]; exact h.1, fun c hc => h.2 c (List.mem_reverse.mp hc)⟩
theorem SN.mono {L M : Nat} {x : Str} (h : SN L x) (k : L ≤ M) : SN M x := ⟨Nat.le_trans h.1 k, h.2⟩
theorem SN.nice {L n k : Nat} {x : Str} (h : SN L x) (hn : L ≤ n) : Nice n k (.str x) := by
  have h1 : Nice x.length k (.str x) := nice_str fun c hc => by have := h.2 c hc; omega
  have h2 := h.1
  rw [chs_len] at h2
  exact h1.mono (by omega) (Nat.le_refl _)
theorem SN.len {L : Nat} {x : Str} (h : SN L x) : x.length ≤ L := by rw [← chs_len]; exact h.1

/-! numbers as texts -/
def numS (i : Int) : Str := (toString i : String)
theorem joinL_len {S : List Nat} {L : Nat} : ∀ {ps : List (List Nat)}, (∀ p ∈ ps, p.length ≤ L) → (joinL S ps).length ≤ ps.length * (L + S.length)
  | [], _ => Nat.zero_le _
  | [p], h => by
    have := h p List.mem_cons_self
    show p.length ≤ 1 * (L + S.length)
    omega
  | p :: q :: r, h => by
    have h1 := h p List.mem_cons_self
    have h2 := joinL_len (S := S) fun x hx => h x (List.mem_cons_of_mem p hx)
    show (p ++ (S ++ joinL S (q :: r))).length ≤ _
    rw [List.length_append, List.length_append, List.length_cons (a := p), Nat.add_mul]
    omega
theorem joinL_all {S : List Nat} {P : Nat → Prop} (hS : ∀ c ∈ S, P c) : ∀ {ps : List (List Nat)}, (∀ p ∈ ps, ∀ c ∈ p, P c) → ∀ c ∈ joinL S ps, P c
  | [], _ => fun _ h => nomatch h
  | [p], h => h p List.mem_cons_self
  | p :: q :: r, h => fun c hc => by
    rcases List.mem_append.mp (show c ∈ p ++ (S ++ joinL S (q :: r)) from hc) with hc | hc
    · exact h p List.mem_cons_self c hc
    · rcases List.mem_append.mp hc with hc | hc
      · exact hS c hc
      · exact joinL_all hS (fun x hx => h x (List.mem_cons_of_mem p hx)) c hc
theorem chs_joinY (y : Str) (zs : List Str) : chs (Txt.join y zs) = joinL (chs y) (zs.map chs) := by
  rw [join_eq]
  exact tl_join y zs
theorem SN.join {L M : Nat} {y : Str} {zs : List Str} (hy : SN M y) (h : ∀ z ∈ zs, SN L z) : SN (zs.length * (L + M)) (Txt.join y zs) := by
  unfold SN
  rw [chs_joinY]
  refine ⟨Nat.le_trans (joinL_len (L := L) fun p hp => ?_) ?_, joinL_all hy.2 fun p hp => ?_⟩
  · obtain ⟨z, hz, rfl⟩ := List.mem_map.mp hp
    exact (h z hz).1
  · rw [List.length_map]
    exact Nat.mul_le_mul_left _ (Nat.add_le_add_left hy.1 _)
  · obtain ⟨z, hz, rfl⟩ := List.mem_map.mp hp
    exact (h z hz).2
theorem split_back {y : Str} {s : Nat} (ey : chs y = [s]) (hs : s < 256) {zs : List Str} (hne : zs ≠ []) (h : ∀ z ∈ zs, s ∉ chs z) : Txt.split (Txt.join y zs) y = zs :=
  split_join (S := []) ey (by
    rw [← Array.all_toList]
    show (chs y).all _ = true
    rw [ey]
    simpa using hs) hne h
/-- a number below 64 as a text -/
structure DG (n : Nat) (z : Str) : Prop where
  lo : 1 ≤ z.length
  hi : z.length ≤ 2
  dg : (chs z).all (fun c => decide (48 ≤ c) && decide (c ≤ 57)) = true
  zr : (chs z)[0]? = some 48 → z = "0"
  rd : intText? z = some (n : Int)
def dgB (n : Nat) (z : Str) : Bool := decide (1 ≤ z.length) && decide (z.length ≤ 2) && (chs z).all (fun c => decide (48 ≤ c) && decide (c ≤ 57)) && (!decide ((chs z)[0]? = some 48) || decide (z = "0"))
theorem dg64 : ((List.range 64).all fun n => dgB n (numS (n : Int))) = true := by decide +kernel
theorem dg_of {n : Nat} (h : n < 64) : DG n (numS n) := by
  have := List.all_eq_true.mp dg64 n (List.mem_range.mpr h)
  unfold dgB at this
  simp only [Bool.and_eq_true, decide_eq_true_eq, Bool.or_eq_true, Bool.not_eq_true', decide_eq_false_iff_not] at this
  obtain ⟨⟨⟨h1, h2⟩, h3⟩, h4⟩ := this
  exact ⟨h1, h2, h3, fun e => h4.resolve_left fun k => k e, PySem.W.KIN.num_reads (by omega) (by omega)⟩
theorem dig10 : ∀ n : Nat, n < 10 → numS (n : Int) = ⟨#[48 + n]⟩ := by decide +kernel
theorem DG.no32 {n : Nat} {z : Str} (h : DG n z) : 32 ∉ chs z := fun hc => by
  have := List.all_eq_true.mp h.dg 32 hc
  revert this
  decide
theorem DG.sn {n : Nat} {z : Str} (h : DG n z) : SN 2 z := ⟨by rw [chs_len]; exact h.hi, fun c hc => by
  have := List.all_eq_true.mp h.dg c hc
  simp only [Bool.and_eq_true, decide_eq_true_eq] at this
  omega⟩
theorem eq_a {c : Nat} : decide ((⟨#[c]⟩ : Str) = "a") = decide (c = 97) := by
  by_cases h : c = 97
  · subst h; rfl
  · rw [decide_eq_false h]
    refine decide_eq_false fun e => h ?_
    have : chs ⟨#[c]⟩ = chs "a" := by rw [e]
    have h2 : chs "a" = [97] := rfl
    rw [h2] at this
    exact List.head_eq_of_cons_eq this
theorem eq_p {c : Nat} : decide ((⟨#[c]⟩ : Str) = "p") = decide (c = 112) := by
  by_cases h : c = 112
  · subst h; rfl
  · rw [decide_eq_false h]
    refine decide_eq_false fun e => h ?_
    have : chs ⟨#[c]⟩ = chs "p" := by rw [e]
    have h2 : chs "p" = [112] := rfl
    rw [h2] at this
    exact List.head_eq_of_cons_eq this
theorem a_iff {c : Nat} : (⟨#[c]⟩ : Str) = "a" ↔ c = 97 := by
  have := eq_a (c := c)
  rwa [decide_eq_decide] at this
theorem p_iff {c : Nat} : (⟨#[c]⟩ : Str) = "p" ↔ c = 112 := by
  have := eq_p (c := c)
  rwa [decide_eq_decide] at this
/-- the signs of a text, one by one -/
theorem items_str (z : Str) : itemsF (.str z) = some ((chs z).map ch) := rfl
theorem X.nilN {r : Rs} {N : Rho → D → Prop} {T : D → D → Prop} {B C : Rho → D → Prop} (h : X r N T B C) : X r (fun ρ g => X (execs [] ρ g) N T B C) T B C := h.mono (fun _ _ h => s_nil h) (fun _ _ h => h) (fun _ _ h => h) (fun _ _ h => h)
theorem s_ins {ρ : Rho} {g : D} {N : Rho → D → Prop} {T : D → D → Prop} {B C : Rho → D → Prop} {i : Nat} {a b : E} {xs : List D} (e1 : getOl ρ i = some xs) (h : W (ev a ρ g) fun x g1 => W (ev b ρ g1) fun y g2 => ∃ k : Nat, x = .int k ∧ (k ≤ 1000000 ∧ xs.length < 16777216) ∧ N (ρ.set i (.ol (xs.take k ++ [y] ++ xs.drop k))) g2) : X (exec (.ins i a b) ρ g) N T B C := by
  rw [exec, e1]
  exact .then (h.mono fun _ _ h => .then (h.mono fun _ _ h => by
    obtain ⟨k, rfl, ⟨h1, h2⟩, h3⟩ := h
    show X (if _ then _ else _) N T B C
    rw [if_pos ⟨by rw [sizeLine_eq]; exact h2, by omega, by omega⟩]
    exact ⟨h3⟩))
def enF : Nat → List D → List D
  | _, [] => []
  | k, x :: xs => .tup [.int k, x] :: enF (k + 1) xs
theorem enF_at : ∀ {k : Nat} {xs : List D} {i : Nat} , (enF k xs)[i]? = xs[i]?.map fun x => .tup [.int ((k + i : Nat) : Int), x]
  | k, [], i => by simp [enF]
  | k, x :: xs, 0 => by simp [enF]
  | k, x :: xs, i + 1 => by
    show (enF (k + 1) xs)[i]? = _
    rw [enF_at]
    show _ = xs[i]?.map _
    have : k + 1 + i = k + (i + 1) := by omega
    rw [this]
theorem enumL_eq (xs : List D) : enumL xs = enF 0 xs := by
  refine List.ext_getElem? fun i => ?_
  rw [enF_at]
  unfold enumL
  rw [List.getElem?_zipWith]
  by_cases h : i < xs.length
  · rw [List.getElem?_eq_getElem (by simpa using h), List.getElem?_eq_getElem h]
    simp
  · rw [List.getElem?_eq_none (by simpa using h), List.getElem?_eq_none (by omega)]
    rfl
theorem ordB_all {n : Nat} {ns : List Int} (hl : ns.length = n) (h : (ns.map D.int).all (isInt 0 ((n : Int) - 1)) = true) : ordB n (.tup (ns.map D.int)) = decide ((nub ns).length = n) := by
  rw [ordB_tup, List.length_map, decide_eq_true hl, h, intsD_map, Bool.true_and, Bool.true_and]
theorem lenset_ok {ns : List Int} (h : ns.length ≤ 1000) : lensetF (.tup (ns.map .int)) = some (.int ((nub ns).length : Nat)) := by
  show (intsD (ns.map .int)).bind _ = _
  rw [intsD_map]
  show (if ns.length ≤ 1000 then _ else _) = _
  rw [if_pos h]
theorem ordB_perm {m : Nat} {p : List Int} (h : p.Perm (upto m)) : ordB m (iT p) = true := by
  have hl : p.length = m := by rw [h.length_eq, upto_length]
  have hr : (p.map D.int).all (isInt 0 ((m : Int) - 1)) = true := List.all_eq_true.mpr fun x hx => by
    obtain ⟨i, hi, rfl⟩ := List.mem_map.mp hx
    have := mem_upto.mp (h.mem_iff.mp hi)
    rw [isInt, Bool.and_eq_true, decide_eq_true_eq, decide_eq_true_eq]
    omega
  have nd : p.Nodup := h.nodup_iff.mpr (upto_nodup m)
  rw [iT, ordB_all hl hr, nub_of_nodup nd]
  exact decide_eq_true hl
theorem plain_ints : ∀ p : List Int, plains (p.map D.int) = true
  | [] => rfl
  | i :: p => by rw [List.map_cons, plains, plain_ints p]; rfl
theorem valD_put {kvs : List (L2.Key × D)} {k q : L2.Key} {x : D} : valD (putD kvs k x) q = if q = k then some x else valD kvs q := by
  have aux : ∀ kvs : List (L2.Key × D), (kvs.any fun kv => decide (kv.1 = k)) = true → valD (kvs.map fun kv => if kv.1 = k then (kv.1, x) else kv) q = if q = k then some x else valD kvs q := by
    intro kvs
    induction kvs with
    | nil => intro h; cases h
    | cons p r ih =>
      obtain ⟨a, y⟩ := p
      intro h
      unfold valD
      rw [List.map_cons, List.find?_cons, List.find?_cons]
      by_cases ha : a = k
      · subst ha
        rw [if_pos rfl]
        by_cases hq : a = q
        · subst hq; simp
        · have hq' : ¬ q = a := fun e => hq e.symm
          simp only [decide_eq_false hq, if_neg hq']
          by_cases hr : (r.any fun kv => decide (kv.1 = a)) = true
          · have := ih hr
            rw [if_neg hq'] at this
            exact this
          · have e : (r.map fun kv => if kv.1 = a then (kv.1, x) else kv) = r := by
              refine (List.map_congr_left fun kv hkv => ?_).trans (List.map_id r)
              have : ¬ kv.1 = a := fun e => hr (List.any_eq_true.mpr ⟨kv, hkv, decide_eq_true e⟩)
              rw [if_neg this]; rfl
            rw [e]
      · have hr : (r.any fun kv => decide (kv.1 = k)) = true := by
          rw [List.any_cons, decide_eq_false ha, Bool.false_or] at h
          exact h
        have := ih hr
        rw [if_neg ha]
        by_cases hq : a = q
        · subst hq
          simp [ha]
        · simp only [decide_eq_false hq]
          exact this
  unfold putD
  split
  · rename_i h
    exact aux kvs h
  · rename_i h
    unfold valD
    rw [List.find?_append]
    by_cases hq : q = k
    · subst hq
      have : (kvs.find? fun kv => decide (kv.1 = q)) = none := by
        rw [List.find?_eq_none]
        intro kv hkv e
        exact h (List.any_eq_true.mpr ⟨kv, hkv, e⟩)
      rw [this, if_pos rfl]
      simp
    · rw [if_neg hq]
      have : ([(k, x)] : List (L2.Key × D)).find? (fun kv => decide (kv.1 = q)) = none := by
        simp only [List.find?_cons, List.find?_nil, decide_eq_false (fun e : k = q => hq e.symm)]
      rw [this, Option.or_none]
theorem putD_len {kvs : List (L2.Key × D)} {k : L2.Key} {x : D} : (putD kvs k x).length ≤ kvs.length + 1 := by
  unfold putD
  split
  · rw [List.length_map]; omega
  · rw [List.length_append]; exact Nat.le_refl _
theorem w_rng3 {ρ : Rho} {g : D} {Q : List D → D → Prop} {a b c : E} (h : W (ev a ρ g) fun x g1 => W (ev b ρ g1) fun y g2 => W (ev c ρ g2) fun z g3 => O (intOf x) fun i => O (intOf y) fun j => z = .int (-1) ∧ (inBd i = true ∧ inBd j = true) ∧ Q (rng3L i (-1) (i - j).toNat) g3) : W (evI (.rng3 a b c) ρ g) Q := by
  rw [evI]; exact .bind (h.mono fun x _ h => .bind (h.mono fun y _ h => .bind (h.mono fun z _ h => by
    obtain ⟨i, e, j, e', rfl, ⟨h1, h1'⟩, h2⟩ := h
    cases x <;> first | (cases e; done) | skip
    cases y <;> first | (cases e'; done) | skip
    cases e
    cases e'
    exact .of (if_pos (by rw [h1, h1']; rfl)) h2)))
theorem rng3_rev (n : Nat) : rng3L ((n : Int) - 1) (-1) n = (upto n).reverse.map .int := by
  refine List.ext_getElem? fun i => ?_
  unfold rng3L upto
  rw [List.getElem?_map, List.getElem?_map]
  by_cases h : i < n
  · rw [List.getElem?_range h, List.getElem?_reverse (by simpa using h)]
    rw [List.getElem?_map, List.length_map, List.length_range, List.getElem?_range (by omega)]
    simp only [Option.map_some, Option.some.injEq, D.int.injEq]
    omega
  · rw [List.getElem?_eq_none (by simpa using h), List.getElem?_eq_none (by simpa using h)]
    rfl
theorem bF_mulLk {x : List D} {k : Int} (h : -(2 ^ 63) ≤ k ∧ k < 2 ^ 63 ∧ x.length * k.toNat ≤ sizeLine) : binF .mul (.lst x) (.int k) = some (.lst (List.replicate k.toNat x).flatten) := if_pos h
theorem bF_mulLst {x : List D} {n : Nat} (h : x.length * n ≤ 1000000) (hn : n ≤ 1000000) : binF .mul (.lst x) (.int n) = some (.lst (List.replicate n x).flatten) := by
  have hs := sizeLine_eq
  have h2 : x.length * (n : Int).toNat ≤ sizeLine := by
    rw [Int.toNat_natCast, hs]
    exact Nat.le_trans h (by decide)
  have h3 : -(2 ^ 63) ≤ (n : Int) := by omega
  have h4 : (n : Int) < 2 ^ 63 := by omega
  have := bF_mulLk (x := x) (k := (n : Int)) ⟨h3, h4, h2⟩
  rwa [Int.toNat_natCast] at this
end PyI

set_option maxRecDepth 100000
/-! PyI, part XT: what is told of errors, from the written part. -/
namespace PyI
open PySem PySem.Spec PyProof.Rows L2
def clsVal (K : PySem.W.Frag) (x : Str) : Option Value := match PySem.W.nsIn K mainGlobals x with
  | some (some v) => some v
  | some none => if x = "ValueError" then some (.type "ValueError") else none
  | none => none
def vOfCls : Value → Option V
  | .ref a => some (.ref a)
  | .type n => some (.ty n)
  | _ => none
def errB (K : PySem.W.Frag) (L : List Str) (c : Str) : Bool := match PySem.W.nsIn K mainGlobals c, PySem.W.nsIn K mainGlobals "PassError" with
  | some (some (.ref D)), some (some (.ref P)) => (PySem.W.clsIn K D).isSome && PySem.W.findIn K (.ref D) "__getattribute__" == some (some (.builtin "BaseException.__getattribute__")) && PySem.W.findIn K (.ref D) "__getattr__" == some none && PySem.W.subIn K (.ref D) (.type "BaseException") == some true
    && PySem.W.findIn K (.ref D) "__class__" == some (some (.builtin "object.__class__")) && PySem.W.mroIn K D (.type "object") == some true && PySem.W.hasDictIn K D && (match fldC c with
      | none => true
      | some f => PySem.W.findIn K (.ref D) f == some none) && PySem.W.exmOne K (.ref D) (.ref P) == some true && (("PassError" : Str) :: ("ValueError" : Str) :: L).all fun x => match clsVal K x with
      | some u => (vOfCls u).isSome && PySem.W.kitOne K (.ref D) u == some (subE c x)
      | none => false
  | _, _ => false
def errsB (K : PySem.W.Frag) (L : List Str) : Bool := PySem.W.specialIn K (.builtin "object.__class__") "__get__" == some (some (.builtin "getset_descriptor.__get__")) && PySem.W.takesIn K (.builtin "object.__class__") == some true && L.all (errB K L)
theorem vOf_rel {u : Value} {v : V} (h : vOfCls u = some v) : RelV v u ∧ (∀ u', RelV v u' → u' = u) ∧ v ≠ .non := by
  cases u <;> first | (cases h; done) | skip
  · cases h; exact ⟨rfl, fun u' h => h, fun z => nomatch z⟩
  · cases h; exact ⟨rfl, fun u' h => h, fun z => nomatch z⟩
section
variable {K : PySem.W.Frag} {mg : Str → Option Value} {h : Heap} {L : List Str}
theorem clsVal_is (KX : K.In h) (Gn : h.Ns mainGlobals mg) {x : Str} {u : Value} (e : clsVal K x = some u) (v : V) (hv : v ≠ .non) : (mg x = some u ∧ v ≠ .non) ∨ (mg x = none ∧ bootBuiltins x = some u ∧ x ≠ "__name__") := by
  unfold clsVal at e
  split at e
  · rename_i w hw
    cases e
    exact .inl ⟨PySem.W.mg_of KX Gn hw, hv⟩
  · rename_i hw
    split at e
    · rename_i hx
      cases e
      subst hx
      exact .inr ⟨PySem.W.mg_none_of KX Gn hw, by decide +kernel, by decide +kernel⟩
    · cases e
  · cases e
theorem try_of (KX : K.In h) (Gn : h.Ns mainGlobals mg) (hP : ∃ P, mg "PassError" = some (.ref P)) (e : errsB K L = true) : TryFacts K mg L := by
  unfold errsB at e
  simp only [Bool.and_eq_true, beq_iff_eq, List.all_eq_true] at e
  obtain ⟨⟨e1, e2⟩, e3⟩ := e
  obtain ⟨P, hP⟩ := hP
  refine ⟨P, hP, fun c hc => ?_⟩
  have q := e3 c hc
  unfold errB at q
  split at q
  · rename_i D P' hD hP'
    have hP2 := PySem.W.mg_of KX Gn hP'
    rw [hP] at hP2
    cases hP2
    simp only [Bool.and_eq_true, beq_iff_eq, List.all_eq_true] at q
    obtain ⟨⟨⟨⟨⟨⟨⟨⟨⟨q1, q2⟩, q3⟩, q4⟩, q5⟩, q6⟩, q7⟩, q8⟩, q9⟩, q10⟩ := q
    refine ⟨D, ⟨PySem.W.mg_of KX Gn hD, fun {x ox od} => PySem.W.kitx_exc q1 q2 q3 q4 q5 e1 e2 q6, fun x hx => ?_, q2, q3, q4, q7, fun f hf => ?_⟩, q9⟩
    · have hm : x ∈ ("PassError" : Str) :: ("ValueError" : Str) :: L := by
        unfold knownE at hx
        simp only [Bool.or_eq_true, decide_eq_true_eq] at hx
        rcases hx with (hx | hx) | hx
        · exact List.mem_cons_of_mem _ (List.mem_cons_of_mem _ hx)
        · subst hx; exact List.mem_cons_self
        · subst hx; exact List.mem_cons_of_mem _ List.mem_cons_self
      have r := q10 x hm
      split at r
      · rename_i u hu
        simp only [Bool.and_eq_true, beq_iff_eq] at r
        obtain ⟨v, hv⟩ := Option.isSome_iff_exists.mp r.1
        obtain ⟨r1, r2, r3⟩ := vOf_rel hv
        exact ⟨v, u, clsVal_is KX Gn hu v r3, r1, r2, r.2⟩
      · cases r
    · rw [hf] at q8
      exact beq_iff_eq.mp q8
  · cases q
theorem urn_ne {C : Gho} (h : isUrn C) : ∀ L c a od, ¬ C.er L c a od := by
  obtain ⟨_, _, _, _, rfl⟩ := h
  exact fun _ _ _ _ z => z
/-- an error with a field -/
theorem mkf_of {c fl qn : Str} {C f1 : Addr} {nm q : Str} {N : Addr} {bs : List Value} {sn : List Str} {sub bm : List Value} {ab : Bool} {col : Option Bool} {dd : Option Addr} {m0 m1 m2 m3 m5 : Option Value} {od1 an1 : Option Addr} {sl1 : Array (Option Value)} {oc1 dc1 pm1 cd1 ct1 : Value} {p1 p2 q1 q2 q3 q4 : Pos}
    (KX : K.In h) (Gn : h.Ns mainGlobals mg) (hfl : fldC c = some fl) (hcd : (fl == ("__debug__" : Str)) = false) (hcc : (c == ("__debug__" : Str)) = false) (hns : fl ≠ ("self" : Str)) (hlook : (PySem.ErrX.iS fl).names.lookup fl = some .local)
    (hbd : ∀ (doc pm : Value) (an : Option Addr) (cdv ct : Value) (p1 p2 q1 q2 q3 q4 : Pos) (x v : Value), bindArgs (PySem.W.fnOf "__init__" qn (PySem.ErrX.iA fl p1 p2) (PySem.ErrX.iB fl q1 q2 q3 q4) (PySem.ErrX.iS fl) .none .none doc pm an cdv ct) ⟨[x, v], []⟩ = pure [(PySem.Str.ofString "self", x), (fl, v)])
    (aC : PySem.W.nsIn K mainGlobals c = some (some (.ref C))) (xL : K.lookup C = some (excClassObj nm q C N bs bm true sn sub ab col dd m0 m1 m2 m3 m5 "ValueError.__new__")) (hbm : PySem.HandSPX.refsVE bm = true)
    (sa : PySem.W.findIn K (.ref C) "__setattr__" = some (some (.builtin "object.__setattr__"))) (ga : PySem.W.findIn K (.ref C) "__getattribute__" = some (some (.builtin "BaseException.__getattribute__"))) (gg : PySem.W.findIn K (.ref C) "__getattr__" = some none) (nb : PySem.W.findIn K (.ref C) fl = some none)
    (a1 : PySem.W.findIn K (.ref C) "__init__" = some (some (.ref f1))) (t1 : PySem.W.typeIn K (.ref f1) = some (.type "function"))
    (l1 : K.lookup f1 = some ⟨oc1, od1, .func (PySem.W.fnOf "__init__" qn (PySem.ErrX.iA fl p1 p2) (PySem.ErrX.iB fl q1 q2 q3 q4) (PySem.ErrX.iS fl) .none .none dc1 pm1 an1 cd1 ct1), sl1⟩) (c1 : PySem.W.codeIn K cd1 qn = true)
    (kC : PySem.W.keepIn K (.ref C) = true) (eC : PySem.W.subIn K (.ref C) (.type "BaseException") = some true) (tC : PySem.W.typeIn K (.ref C) = some (.type "type")) (hC : PySem.W.hasDictIn K C = true) : MkFacts K mg c := by
  unfold MkFacts
  rw [hfl]
  refine ⟨C, f1, qn, ?_⟩
  constructor
  · exact PySem.W.mg_of KX Gn aC
  · exact ⟨nm, q, N, bs, bm, sn, sub, ab, col, dd, m0, m1, m2, m3, m5, xL, hbm⟩
  · exact sa
  · exact ga
  · exact gg
  · exact nb
  · exact a1
  · exact t1
  · exact kC
  · exact eC
  · exact tC
  · exact hC
  · exact hcd
  · exact hcc
  · exact hbd
  · exact hns
  · exact hlook
  · exact ⟨_, _, _, _, _, _, _, _, _, _, _, _, _, _, l1, c1⟩
theorem mk0_of {c : Str} {C : Addr} (KX : K.In h) (Gn : h.Ns mainGlobals mg) (hfl : fldC c = none) (aC : PySem.W.nsIn K mainGlobals c = some (some (.ref C)))
    (xC : PySem.W.excIn K C [.type "ValueError", .type "Exception", .type "BaseException", .type "object"] "ValueError.__new__" = true) (kC : PySem.W.keepIn K (.ref C) = true) (eC : PySem.W.subIn K (.ref C) (.type "BaseException") = some true) (tC : PySem.W.typeIn K (.ref C) = some (.type "type")) : MkFacts K mg c := by
  unfold MkFacts
  rw [hfl]
  exact ⟨C, _, PySem.W.mg_of KX Gn aC, xC, rfl, kC, eC, tC⟩
end
section
variable {G : Gho → Prop} {P : Program} {w : World} {K : PySem.W.Frag} {mg : Str → Option Value} {base : Heap} {k : Nat}
theorem knows_try {L : List Str} (h : TryFacts K mg L) : Knows G P w K mg base k ".?" (tagS L) := .inr (.inr (.inr (.inl ⟨rfl, L, rfl, h⟩)))
theorem knows_mk {c : Str} (h : MkFacts K mg c) : Knows G P w K mg base k ".!" (tagR c) := .inr (.inr (.inr (.inr ⟨rfl, c, rfl, h⟩)))
end
end PyI

set_option maxRecDepth 100000
/-! PyI, part XW: what holds after, errors included. -/
namespace PyI
open PySem PySem.Spec PyProof.Rows L2
abbrev EK := Str → List (Str × D) → D → Prop
def VVx {α : Type} (r : R α) (Q : α → D → Prop) (E : EK) : Prop := match r with
  | .ok a g => Q a g
  | .exc c fs g => E c fs g
  | .no => False
structure Vx {α : Type} (r : R α) (Q : α → D → Prop) (E : EK) : Prop where
  ok : VVx r Q E
def YYx (r : Rs) (N : Rho → D → Prop) (T : D → D → Prop) (B C : Rho → D → Prop) (E : EK) : Prop := match r with
  | .nx ρ g => N ρ g
  | .rt d g => T d g
  | .bk ρ g => B ρ g
  | .ct ρ g => C ρ g
  | .ex c fs g => E c fs g
  | .no => False
structure Yx (r : Rs) (N : Rho → D → Prop) (T : D → D → Prop) (B C : Rho → D → Prop) (E : EK) : Prop where
  ok : YYx r N T B C E
section
variable {ρ : Rho} {g : D} {N : Rho → D → Prop} {T : D → D → Prop} {B C : Rho → D → Prop} {E : EK} {Q : D → D → Prop}
theorem Vx.w {α : Type} {r : R α} {Q : α → D → Prop} (h : W r Q) : Vx r Q E := by
  obtain ⟨a, g, rfl, q⟩ := h
  exact ⟨q⟩
theorem Vx.mono {α : Type} {r : R α} {Q Q' : α → D → Prop} {E' : EK} (h : Vx r Q E) (k : ∀ a g, Q a g → Q' a g) (k2 : ∀ c fs g, E c fs g → E' c fs g) : Vx r Q' E' := by
  have h := h.ok
  cases r with
  | ok a g => exact ⟨k _ _ h⟩
  | exc c fs g => exact ⟨k2 _ _ _ h⟩
  | no => exact h.elim
theorem Vx.toW {α : Type} {r : R α} {Q : α → D → Prop} (h : Vx r Q fun _ _ _ => False) : W r Q := by
  have h := h.ok
  cases r with
  | ok a g => exact .of rfl h
  | exc c fs g => exact h.elim
  | no => exact h.elim
theorem Vx.bindW {α β : Type} {r : R α} {f : α → D → R β} {Q : β → D → Prop} (h : W r fun a g => Vx (f a g) Q E) : Vx (r.bind f) Q E := by
  obtain ⟨a, g, rfl, q⟩ := h
  exact q
theorem Vx.bind {α β : Type} {r : R α} {f : α → D → R β} {Q : β → D → Prop} (h : Vx r (fun a g => Vx (f a g) Q E) E) : Vx (r.bind f) Q E := by
  have h := h.ok
  cases r with
  | ok a g => exact h
  | exc c fs g => exact ⟨h⟩
  | no => exact h.elim
theorem v_call {f : Str} {m : Sem} {es : List PyI.E} (h : W (evs es ρ g) fun ds g1 => Vx (m ds g1) Q E) : Vx (ev (.call f m es) ρ g) Q E := by
  rw [ev]; exact .bindW h
theorem v_ife {t a b : PyI.E} (h : W (ev t ρ g) fun x g1 => Bq x (Vx (ev a ρ g1) Q E) (Vx (ev b ρ g1) Q E)) : Vx (ev (.ife t a b) ρ g) Q E := by
  rw [ev]; exact .bindW (h.mono fun _ _ h => by
    obtain ⟨q, rfl, h1, h2⟩ := h
    cases q with
    | true => exact h1 rfl
    | false => exact h2 rfl)
theorem v_nil {Q : List D → D → Prop} (h : Q [] g) : Vx (evs [] ρ g) Q E := .w (w_nil h)
theorem v_cons {Q : List D → D → Prop} {e : PyI.E} {es : List PyI.E} (h : Vx (ev e ρ g) (fun x g1 => Vx (evs es ρ g1) (fun xs g2 => Q (x :: xs) g2) E) E) : Vx (evs (e :: es) ρ g) Q E := by
  rw [evs]
  exact .bind (h.mono (fun x g1 h => .bind (h.mono (fun xs g2 h => ⟨h⟩) fun _ _ _ h => h)) fun _ _ _ h => h)
theorem v_callV {f : Str} {m : Sem} {es : List PyI.E} (h : Vx (evs es ρ g) (fun ds g1 => Vx (m ds g1) Q E) E) : Vx (ev (.call f m es) ρ g) Q E := by
  rw [ev]; exact .bind h
theorem v_idx {a b : PyI.E} (h : Vx (ev a ρ g) (fun x g1 => W (ev b ρ g1) fun y g2 => O (idxF x y) fun d => Q d g2) E) : Vx (ev (.idx a b) ρ g) Q E := by
  rw [ev]; exact .bind (h.mono (fun x g1 h => .w (.bind (h.mono fun y g2 h => .opt h))) fun _ _ _ h => h)
theorem Yx.x {r : Rs} (h : X r N T B C) : Yx r N T B C E := by
  have h := h.ok
  cases r <;> first | exact ⟨h⟩ | exact h.elim
theorem Yx.mono {r : Rs} {N' : Rho → D → Prop} {T' : D → D → Prop} {B' C' : Rho → D → Prop} {E' : EK} (h : Yx r N T B C E) (hN : ∀ ρ g, N ρ g → N' ρ g) (hT : ∀ d g, T d g → T' d g) (hB : ∀ ρ g, B ρ g → B' ρ g) (hC : ∀ ρ g, C ρ g → C' ρ g) (hE : ∀ c fs g, E c fs g → E' c fs g) : Yx r N' T' B' C' E' := by
  have h := h.ok
  cases r with
  | nx ρ g => exact ⟨hN _ _ h⟩
  | rt d g => exact ⟨hT _ _ h⟩
  | bk ρ g => exact ⟨hB _ _ h⟩
  | ct ρ g => exact ⟨hC _ _ h⟩
  | ex c fs g => exact ⟨hE _ _ _ h⟩
  | no => exact h.elim
theorem Yx.seq {r : Rs} {f : Rho → D → Rs} (h : Yx r (fun ρ g => Yx (f ρ g) N T B C E) T B C E) : Yx (r.seq f) N T B C E := by
  have h := h.ok
  cases r with
  | nx ρ g => exact h
  | rt d g => exact ⟨h⟩
  | bk ρ g => exact ⟨h⟩
  | ct ρ g => exact ⟨h⟩
  | ex c fs g => exact ⟨h⟩
  | no => exact h.elim
theorem Yx.thenV {α : Type} {r : R α} {f : α → D → Rs} (h : Vx r (fun a g => Yx (f a g) N T B C E) E) : Yx (r.then f) N T B C E := by
  have h := h.ok
  cases r with
  | ok a g => exact h
  | exc c fs g => exact ⟨h⟩
  | no => exact h.elim
theorem Yx.then {α : Type} {r : R α} {f : α → D → Rs} (h : W r fun a g => Yx (f a g) N T B C E) : Yx (r.then f) N T B C E := by
  obtain ⟨a, g, rfl, h⟩ := h
  exact h
theorem Yx.opt {α : Type} {o : Option α} {f : α → Rs} (h : O o fun a => Yx (f a) N T B C E) : Yx (optS o f) N T B C E := by
  obtain ⟨a, rfl, h⟩ := h
  exact h
theorem y_cons {s : S} {r : List S} (h : Yx (exec s ρ g) (fun ρ1 g1 => Yx (execs r ρ1 g1) N T B C E) T B C E) : Yx (execs (s :: r) ρ g) N T B C E := by
  rw [execs]; exact .seq h
theorem y_nil (h : N ρ g) : Yx (execs [] ρ g) N T B C E := by rw [execs]; exact ⟨h⟩
theorem y_set {i : Nat} {e : PyI.E} (h : Vx (ev e ρ g) (fun d g1 => N (ρ.set i (.val d)) g1) E) : Yx (exec (.set i e) ρ g) N T B C E := by
  rw [exec]; exact .thenV (h.mono (fun _ _ h => ⟨h⟩) fun _ _ _ h => h)
theorem y_ret {e : PyI.E} (h : Vx (ev e ρ g) T E) : Yx (exec (.ret e) ρ g) N T B C E := by
  rw [exec]; exact .thenV (h.mono (fun _ _ h => ⟨h⟩) fun _ _ _ h => h)
theorem y_expr {e : PyI.E} (h : Vx (ev e ρ g) (fun _ g1 => N ρ g1) E) : Yx (exec (.expr e) ρ g) N T B C E := by
  rw [exec]; exact .thenV (h.mono (fun _ _ h => ⟨h⟩) fun _ _ _ h => h)
theorem y_par {is : List (Nat × Bool)} {es : List PyI.E} (h : Vx (evs es ρ g) (fun ds g1 => O (setPar ρ is ds) fun ρ1 => N ρ1 g1) E) : Yx (exec (.par is es) ρ g) N T B C E := by
  rw [exec]; exact .thenV (h.mono (fun _ _ h => .opt (h.mono fun _ h => ⟨h⟩)) fun _ _ _ h => h)
theorem y_ift {t : PyI.E} {a b : List S} (h : W (ev t ρ g) fun x g1 => Bq x (Yx (execs a ρ g1) N T B C E) (Yx (execs b ρ g1) N T B C E)) : Yx (exec (.ift t a b) ρ g) N T B C E := by
  rw [exec]; exact .then (h.mono fun _ _ h => by
    obtain ⟨q, rfl, h1, h2⟩ := h
    cases q with
    | true => exact h1 rfl
    | false => exact h2 rfl)
theorem y_rai {c : Str} {es : List PyI.E} (h : W (evs es ρ g) fun ds g1 => ∃ fs, fsOf (fldC c) ds = some fs ∧ E c fs g1) : Yx (exec (.rai c es) ρ g) N T B C E := by
  rw [exec]
  refine .then (h.mono fun ds g1 h => ?_)
  obtain ⟨fs, h1, h2⟩ := h
  rw [h1]; exact ⟨h2⟩
theorem yloop_inv {body : D → Rho → D → Rs} {I : List D → Rho → D → Prop} : ∀ {xs : List D} {ρ : Rho} {g : D}, I xs ρ g → (∀ x r ρ g, I (x :: r) ρ g → Yx (body x ρ g) (I r) T N (I r) E) → (∀ ρ g, I [] ρ g → N ρ g) → Yx (loopL body xs ρ g) N T B C E
  | [], ρ, g, h, _, e => ⟨e ρ g h⟩
  | x :: xs, ρ, g, h, st, e => by
    have h1 := st x xs ρ g h
    rw [loopL]
    cases hb : body x ρ g with
    | nx ρ1 g1 => rw [hb] at h1; exact yloop_inv (I := I) h1.ok st e
    | rt d g1 => rw [hb] at h1; exact ⟨h1.ok⟩
    | bk ρ1 g1 => rw [hb] at h1; exact ⟨h1.ok⟩
    | ct ρ1 g1 => rw [hb] at h1; exact yloop_inv (I := I) h1.ok st e
    | ex c fs g1 => rw [hb] at h1; exact ⟨h1.ok⟩
    | no => rw [hb] at h1; exact h1.ok.elim
theorem y_loop {tg : Tg} {it : PyI.I} {b : List S} {I : List D → Rho → D → Prop} (h : W (evI it ρ g) fun xs g1 => I xs ρ g1) (st : ∀ x r ρ g, I (x :: r) ρ g → O (bindT tg x ρ) fun ρ1 => Yx (execs b ρ1 g) (I r) T N (I r) E) (e : ∀ ρ g, I [] ρ g → N ρ g) : Yx (exec (.loop tg it b) ρ g) N T B C E := by
  rw [exec]
  exact .then (h.mono fun xs g1 h => yloop_inv h (fun x r ρ g hI => .opt (st x r ρ g hI)) e)
theorem v_fn {np n : Nat} {b : List S} {ds : List D} (hl : ds.length = np) (h : Yx (execs b (ds.map .val ++ List.replicate (n - np) .un) g) (fun _ g1 => Q .non g1) Q no2 no2 E) : Vx (fnD np n b ds g) Q E := by
  rw [fn_eq hl]
  have h := h.ok
  cases e : execs b (ds.map .val ++ List.replicate (n - np) .un) g with
  | nx ρ1 g1 => rw [e] at h; exact ⟨h⟩
  | rt d g1 => rw [e] at h; exact ⟨h⟩
  | bk ρ1 g1 => rw [e] at h; exact h.elim
  | ct ρ1 g1 => rw [e] at h; exact h.elim
  | ex c fs g1 => rw [e] at h; exact ⟨h⟩
  | no => rw [e] at h; exact h.elim
/-- a try -/
theorem s_tri {L : List Str} {k : Tk} {i : Nat} {e : PyI.E} {hs : List S} (h : Vx (ev e ρ g) (fun d g1 => X (k.fin d ρ g1) N T B C) fun c fs g1 => c ∈ L ∧ X (execs hs (ρ.set i (.er L c fs)) g1) (fun ρ2 g2 => noEr (ρ2.set i .un) = true ∧ N (ρ2.set i .un) g2) T no2 no2) : X (exec (.tri L k i e hs) ρ g) N T B C := by
  rw [exec]
  have h := h.ok
  cases e1 : ev e ρ g with
  | ok d g1 => rw [e1] at h; exact h
  | exc c fs g1 =>
    rw [e1] at h
    obtain ⟨h1, h2⟩ := h
    dsimp only
    rw [if_pos h1]
    have h2 := h2.ok
    cases e2 : execs hs (ρ.set i (.er L c fs)) g1 with
    | nx ρ2 g2 =>
      rw [e2] at h2
      obtain ⟨h3, h4⟩ := h2
      rw [clrS, if_pos h3]
      exact ⟨h4⟩
    | rt d g2 => rw [e2] at h2; exact ⟨h2⟩
    | bk ρ2 g2 => rw [e2] at h2; exact h2.elim
    | ct ρ2 g2 => rw [e2] at h2; exact h2.elim
    | ex c fs g2 => rw [e2] at h2; exact h2.elim
    | no => rw [e2] at h2; exact h2.elim
  | no => rw [e1] at h; exact h.elim
theorem w_eis {i : Nat} {cs : List Str} {tp : Bool} {L : List Str} {c : Str} {fs : List (Str × D)} (e : ρ[i]? = some (.er L c fs)) (hk : cs.all (knownE L) = true) (h : Q (.bl (cs.any (subE c))) g) : W (ev (.eis i cs tp) ρ g) Q := by
  refine .of (a := .bl (cs.any (subE c))) (g := g) ?_ h
  rw [ev, eisF, e]
  dsimp only
  rw [if_pos hk]; rfl
theorem w_efl {i : Nat} {f : Str} {L : List Str} {c : Str} {d : D} (e : ρ[i]? = some (.er L c [(f, d)])) (hf : fldC c = some f) (h : Q d g) : W (ev (.efl i f) ρ g) Q := by
  refine .of (a := d) (g := g) ?_ h
  rw [ev, eflF, e]
  dsimp only
  rw [if_pos ⟨rfl, hf⟩]; rfl
end
theorem v_scall {m : Sem} {ds xs : List D} {g : D} {Q : D → D → Prop} {E : EK} (e : lastF ds = some xs) (h : Vx (m xs g) Q E) : Vx (scallS m ds g) Q E := by
  unfold scallS
  rw [e]; exact h
theorem v_star {np : Nat} {m : Sem} {ds : List D} {g : D} {Q : D → D → Prop} {E : EK} (h1 : np ≤ ds.length) (h2 : ds.length ≤ 1000000) (h : Vx (m (ds.take np ++ [.tup (ds.drop np)]) g) Q E) : Vx (starS np m ds g) Q E := by
  unfold starS
  rw [if_pos ⟨h1, by rw [sizeLine_eq]; omega⟩]; exact h
end PyI

set_option maxRecDepth 100000
/-! PyI, part XP: a def out of a list display of two is called. -/
namespace PyI
open PySem PySem.Spec PyProof.Rows L2
variable {G : Gho → Prop}
theorem noB_two {e : E} {es : List E} (h : noB (kds (e :: es)) = true) : (kd e).le .clean = true ∧ noB (kds es) = true := by
  simp only [kds] at h
  revert h
  cases kd e <;> cases kds es <;> decide
section
variable {X : Cx} {N : List Str} {sc : Scope} {C : Gho} {W : WX} {H0 : Hp}
theorem pa_ofz : ∀ {es : List E} {xs : List Expr}, mEs N sc es xs = true → noB (kds es) = true → PEz C X H0 W es xs → PA X xs (tAc C X.mg H0 W es)
  | [], [], _, _, _ => a_c_nil
  | [], _ :: _, _, _, hz => hz.elim
  | _ :: _, [], _, _, hz => hz.elim
  | e :: es, x :: xs, hm, hk, hz => by
    simp only [mEs, Bool.and_eq_true] at hm
    exact a_c_cons hm.1.2 (noB_two hk).1 hz.1 (pa_ofz hm.2 (noB_two hk).2 hz.2)
end
theorem evs_sm : ∀ {es : List E}, es.all smE = true → ∀ (ρ : Rho) (g : D), evs es ρ g = .no ∨ ∃ ds, evs es ρ g = .ok ds g
  | [], _, ρ, g => .inr ⟨[], by rw [evs]⟩
  | e :: es, h, ρ, g => by
    rw [List.all_cons, Bool.and_eq_true] at h
    rw [evs]
    rcases smE_ev h.1 ρ g with he | ⟨d, he⟩
    · rw [he]; exact .inl rfl
    · rw [he]
      rcases evs_sm h.2 ρ g with hs | ⟨ds, hs⟩
      · left; show R.bind (evs es ρ g) _ = _; rw [hs]; rfl
      · right; refine ⟨d :: ds, ?_⟩; show R.bind (evs es ρ g) _ = _; rw [hs]; rfl
def pickS (mA mB : Sem) : Sem := fun ds g => match ds with
  | .int i :: r => if i = 0 then mA r g else if i = 1 then mB r g else .no
  | _ => .no
theorem at_two {x y : V} {i : Int} (h : i = 0 ∨ i = 1) : atI [x, y] i = some (if i = 0 then x else y) := by
  rcases h with rfl | rfl <;> rfl
theorem kn_pick {P : Program} {w : World} {K : PySem.W.Frag} {mg : Str → Option Value} {base : Heap} {k0 : Nat} {mA mB : Sem} (kA : KnowsH G P w K mg base k0 "ranks_rule" mA) (kB : KnowsH G P w K mg base k0 "polite_rule" mB) : KnowsX G P w K mg base k0 ".pick" (pickS mA mB) := by
  intro X N sc C W H0 x xs es ok hcm tk hP hw hK hmg hbase hx hsm hm hB hz
  subst hP hw hK hmg hbase
  unfold mX at hx
  rw [if_neg (by decide +kernel), if_neg (by decide +kernel), if_neg (by decide +kernel), if_pos rfl] at hx
  split at hx
  · rename_i na pa nb pb lp wx p0 ys pos
    split at hx
    · rename_i hp
      simp only [Bool.and_eq_true, decide_eq_true_eq] at hp
      obtain ⟨⟨⟨⟨rfl, rfl⟩, ga⟩, gb⟩, hp⟩ := hp
      cases hx
      match es, hz, hB, hm with
      | e :: es, hz, hB, hm =>
        obtain ⟨hw, hz⟩ := hz
        obtain ⟨ke, kes⟩ := noB_two hB
        simp only [mEs, Bool.and_eq_true] at hm
        obtain ⟨⟨m1, m2⟩, m3⟩ := hm
        obtain ⟨jA, aA, hjA, FA, mgA, kpA⟩ := kA
        obtain ⟨jB, aB, hjB, FB, mgB, kpB⟩ := kB
        obtain ⟨gA1, gA2, _⟩ := ok.gl ga
        obtain ⟨gB1, gB2, _⟩ := ok.gl gb
        have pl : PlainIx wx := by
          intro o i
          cases wx <;> first | rfl | (cases hp; done)
        have lst : PE X (.List [.Name "ranks_rule" pa, .Name "polite_rule" pb] lp) (fun σ H Q => ∀ p, H p = none → Q (.ref p) (upd H p (.lst [.ref aA, .ref aB]))) := by
          refine ⟨fun pins s σ H Q I h => ?_⟩
          refine (pe_lst (pa_cons (pe_glob (v := .ref aA) gA1 mgA rfl gA2) (pa_cons (pe_glob (v := .ref aB) gB1 mgB rfl gB2) pa_nil (starEach_cons rfl)) (starEach_cons rfl))).run pins s σ H Q I ?_
          exact ⟨size60 (by simp), h⟩
        have obj : PE X (.Subscript (.List [.Name "ranks_rule" pa, .Name "polite_rule" pb] lp) wx p0) (tOp (rIxL X.K) (fun σ H Q => ∀ p, H p = none → Q (.ref p) (upd H p (.lst [.ref aA, .ref aB]))) (tE C X.mg H0 W e)) := pe_ix ix_list lst hw pl
        have main : PE X (.Call (.Subscript (.List [.Name "ranks_rule" pa, .Name "polite_rule" pb] lp) wx p0) ys [] pos) (tE C X.mg H0 W (.call ".pick" (pickS mA mB) (e :: es))) := by
          refine ⟨fun pins s σ H Q I hq => ?_⟩
          obtain ⟨B, ρ, γ, S, hq⟩ := hq
          rw [ev, evs] at hq
          let Q1 : VK := fun y H1 => ∃ (mm : Sem) (j : Nat) (a : Addr), j ≤ k0 ∧ FnH X.prog X.w X.K X.mg X.base j a (spH G X.K X.mg mm) ∧ PySem.W.keepIn X.K (.ref a) = true ∧ y = .ref a ∧
            tAc C X.mg H0 W es σ H1 (fun vs H2 => spH G X.K X.mg mm vs H2 Q fun cls od H' => W cls od σ H')
          have h1 : tOp (rIxL X.K) (fun σ H Q => ∀ p, H p = none → Q (.ref p) (upd H p (.lst [.ref aA, .ref aB]))) (tE C X.mg H0 W e) σ H Q1 := by
            intro p hpn
            have xa : Ext C.U B H B (upd H p (.lst [.ref aA, .ref aB])) := Ext.alloc S.sub hpn
            have np : ¬ C.U p := fun u => C.has _ _ _ S.gh u hpn
            have Sa := S.ext xa (C.stayE S.gh hpn)
            refine ⟨B, ρ, γ, Sa, (hq.bind.bind.ext xa).imp fun d g h1 => Done.le (k := .clean) ke fun v B1 H1 x1 g1 r1 => ?_⟩
            have S1 := Sa.ext x1 g1
            have ha : H1 p = some (.lst [.ref aA, .ref aB]) := x1.keep p _ upd_same np
            have S1p := S1
            have xe := xa.trans x1
            have fin : ∀ {mm : Sem} {ds : List D}, evs es ρ g = .ok ds g → Fin C X.mg W B σ H (mm ds g) (fun d g2 => Done C B H g2 .clean d Q) → tAc C X.mg H0 W es σ H1 (fun vs H2 => spH G X.K X.mg mm vs H2 Q fun cls od H' => W cls od σ H') := by
              intro mm ds hev h2
              refine ⟨B1, ρ, g, S1, ?_⟩
              rw [hev]
              show ∀ vs B2 H2, _ → _ → _ → _
              intro vs B2 H2 x2 g2 r2
              refine ⟨C, B2, g, ds, ok.hK, ok.hG, ok.hn, x2.s, g2, (S1.ext x2 g2).uB, ok.nr hcm, r2, ?_⟩
              cases hr : mm ds g with
              | ok d2 g3 =>
                rw [hr] at h2
                exact (show Done C B H g3 .clean d2 Q from h2).ext (xe.trans x2)
              | exc c fs g3 =>
                rw [hr] at h2
                exact fun cls od B' H' y g' e => h2 cls od B' H' ((xe.trans x2).trans y) g' e
              | no => rw [hr] at h2; exact h2.elim
            have sm : es.all smE = true := by
              unfold smOk at hsm
              rw [Bool.and_eq_true] at hsm
              have h1 := hsm.2
              rwa [decide_eq_false (fun k => k rfl), Bool.false_or] at h1
            rcases evs_sm sm ρ g with hev | ⟨ds, hev⟩
            · rw [hev] at h1
              exact h1.elim
            · rw [hev] at h1
              replace h1 : Fin C X.mg W B σ H (pickS mA mB (d :: ds) g) (fun d g2 => Done C B H g2 .clean d Q) := h1
              unfold pickS at h1
              split at h1
              · rename_i i r heq
                cases heq
                cases r1
                split at h1
                · rename_i hi
                  subst hi
                  exact ⟨p, [.ref aA, .ref aB], 0, .ref aA, rfl, rfl, .inl (.inl ha), rfl, mA, jA, aA, hjA, FA, kpA, rfl, fin hev h1⟩
                · split at h1
                  · rename_i hi
                    subst hi
                    exact ⟨p, [.ref aA, .ref aB], 1, .ref aB, rfl, rfl, .inl (.inl ha), rfl, mB, jB, aB, hjB, FB, kpB, rfl, fin hev h1⟩
                  · exact h1.elim
              · exact h1.elim
          refine Call_ (thn (obj.run pins s σ H Q1 I h1) fun u s1 ⟨y, H1, I1, ry, mm, j, a, hj, F, hkp, ey, go⟩ => ?_) rfl
          subst ey
          obtain rfl : u = Value.ref a := ry
          have hr := (ok.room hcm).mono hj
          cases ys with
          | nil =>
            cases es with
            | cons e es => simp [mEs] at m3
            | nil =>
              refine PySem.W.callWith_K0 I1.kIn hkp ?_
              obtain ⟨B, ρ, γ, S, hq⟩ := go
              rw [evs] at hq
              exact runH F ok.gd hr tk I1 .nil (hq [] B H1 (Ext.refl S.sub) S.gh .nil)
          | cons y ys =>
            cases es with
            | nil => simp [mEs] at m3
            | cons e es =>
              have m4 := m3
              simp only [mEs, Bool.and_eq_true] at m4
              refine PySem.W.callWith_K (h₀ := X.base) I1.ok.mod.kin hkp (thn ((pa_ofz m3 kes hz).run pos pins s1 σ H1 _ I1 go) fun us s2 h1 => ?_) (starEach_cons m4.1.2) (mEs_plain m4.2 _ _)
              obtain ⟨vs, H2, I2, r, q⟩ := h1
              exact ⟨I2.kIn, runH F ok.gd hr tk I2 r q⟩
        exact ⟨main, t_val rfl main⟩
    · cases hx
  · cases hx
theorem Knows.toH {G : Gho → Prop} {P : Program} {w : World} {K : PySem.W.Frag} {mg : Str → Option Value} {base : Heap} {k : Nat} {f : Str} {m : Sem} (h : Knows G P w K mg base k f m) (hd0 : isDot f = false) : KnowsH G P w K mg base k f m := by
  rcases h with ⟨_, h⟩ | ⟨h, _⟩ | ⟨_, h⟩ | ⟨rfl, _⟩ | ⟨rfl, _⟩
  · obtain ⟨j, a, fd, ps, hj, F, hmg, hk, hb, har⟩ := h
    refine ⟨j, a, hj, ⟨?_⟩, hmg, hk⟩
    intro A outer s H us vs Q E hg hr e0 r hsp
    obtain ⟨C, B, γ, ds, hK, hG, hn, sB, g, u, hnr, rr, hq⟩ := hsp
    have hl : ds.length = ps.length := by
      by_cases e : ds.length = ps.length
      · exact e
      · rw [har ds γ e] at hq; exact hq.elim
    have e1 := rr.length
    have e2 := r.length
    have b := hb s us (e0.mod.kin.keeps fun b o e => (e0.bs b o e).1) (by rw [List.append_nil]; omega)
    rw [List.append_nil] at b
    exact F.run A outer s H ⟨us, []⟩ us vs Q E hg hr e0 b r ⟨C, B, γ, ds, hK, hG, hn, sB, g, u, hnr, rr, hl, hq⟩
  · rw [isPat_dot h] at hd0; cases hd0
  · exact h
  · cases hd0
  · cases hd0
theorem Knows.pick {G : Gho → Prop} {P : Program} {w : World} {K : PySem.W.Frag} {mg : Str → Option Value} {base : Heap} {k : Nat} {mA mB : Sem} (hA : Knows G P w K mg base k "ranks_rule" mA) (hB : Knows G P w K mg base k "polite_rule" mB) : Knows G P w K mg base k ".pick" (pickS mA mB) :=
  .inr (.inl ⟨by decide +kernel, kn_pick (hA.toH (by decide +kernel)) (hB.toH (by decide +kernel))⟩)
end PyI

set_option maxRecDepth 100000
/-! PyI, part OX: errors as values: made, asked for their class, read. -/
namespace PyI
open PySem PySem.Spec PyProof.Rows L2
section
variable {X : Cx} {pins : List (Addr × Obj)} {σ : L2.St} {H : Hp} {s : Shared}
theorem errH_ok {P : Program} {w : World} {H : Hp} {h : Heap} {a C : Addr} {od : Option Addr} {oe : Obj} {ws : Array Value} (e : h.get? a = some oe) (z : Zc (.ref C) od oe) (d : oe.data = .fields ws) : ObjOk P w H h a (ErrH C od a) :=
  ⟨⟨oe, ws, e, z, d⟩, ⟨oe, e⟩, fun h1 h2 ⟨o, v, e1, z1, d1⟩ k => ⟨o, v, k _ e1, z1, d1⟩⟩
def tNewErr (fl : Str) (C : Addr) (ta : TA) : TE := fun σ H Q => ta σ H fun vs H1 => ∃ v, vs = [v] ∧ ∀ d e, H1 d = none → H1 e = none → e ≠ d → Q (.ref e) (upd (upd H1 d (.xd [(fl, v)])) e (ErrH C (some d) e))
theorem pe_newErr {cn qn fl : Str} {C fI : Addr} {a : Expr} {ta : TA} {p pos : Pos} {k : Nat} (T : PySem.ErrX.ErrTxt cn qn fl X.K X.mg C fI) (hr : Room k X.A) (ha : PA X [a] ta) (hg : Gl X cn)
    (he : starEach (a :: []) X.env = (false, eval a X.env) :: starEach [] X.env := by rfl) (hpl : (backTo pos (starEach [] X.env)).any (·.1) = false := by rfl) :
    PE X (.Call (.Name cn p) [a] [] pos) (tNewErr fl C ta) := by
  refine ⟨fun pins s σ H Q I h => ?_⟩
  refine wpAny_Call_Name_kw (ld_glob I hg T.gC ?_ T.dbc)
  refine PySem.W.callWith_K (h₀ := X.base) I.ok.mod.kin T.kC (thn (ha.run pos pins s σ H _ I h) fun us s1 hh => ?_) he hpl
  obtain ⟨vs, H1, I1, r1, v, ev, q1⟩ := hh
  subst ev
  refine ⟨I1.kIn, ?_⟩
  cases r1 with
  | cons rv rn =>
    rename_i v' us'
    cases rn
    show wpAny _ _ (call (.ref C) [v']) _ _ _
    have hlim := I1.nolimit
    obtain ⟨hp, g, dr, tk, os⟩ := s1
    refine wpAny_call (PySem.ErrX.err_made T I1.kIn hlim (by have := hr.dp; omega) fun h' tk' e d M => ?_)
    obtain ⟨oe, fv, hoe, hc, hd, hdat, h1⟩ := M.obj
    have hns := M.ns
    obtain ⟨G', g1, g2⟩ := restrict h' fun b => decide (b ≠ e)
    have gk : ∀ b, b ≠ e → G'.get? b = h'.get? b := fun b hb => g1 b (decide_eq_true hb)
    have ge : G'.get? e = none := g2 e (by simp)
    have old : ∀ b o, hp.get? b = some o → G'.get? b = some o := fun b o q => (gk b (Nat.ne_of_lt (Nat.lt_of_lt_of_le (Heap.lt_size q) M.new))).trans (M.keep b o q)
    have ob : ObjOk X.prog X.w (upd H1 d (.xd [(fl, v)])) G' d (.xd [(fl, v)]) :=
      ⟨_, hns.at (fun o q => (gk d M.dne).trans q), fun f => relO_err rv fl f⟩
    have J : Inv X pins σ (upd H1 d (.xd [(fl, v)])) ⟨G', g, dr, tk', os⟩ := I1.laid (t' := tk') old M.dbig ob
    have hHe : H1 e = none := I1.hok.fresh M.new
    have nHe : upd H1 d (.xd [(fl, v)]) e = none := by rw [upd_ne (Ne.symm M.dne)]; exact hHe
    have kp : ∀ b o, G'.get? b = some o → h'.get? b = some o := fun b o q => by
      by_cases hb : b = e
      · rw [hb, ge] at q; cases q
      · exact (gk b hb).symm.trans q
    have J2 : Inv X pins σ (upd (upd H1 d (.xd [(fl, v)])) e (ErrH C (some d) e)) ⟨h', g, dr, tk', os⟩ := J.laidN (t' := tk') kp ge nHe (errH_ok hoe ⟨hc, hd⟩ hdat)
    exact ⟨.ref e, _, J2, rfl, q1 d e (I1.hok.fresh M.dbig) hHe (Ne.symm M.dne)⟩
theorem pe_newErr0 {x : Str} {D : Addr} {B newId initId : String} {bmB : List Value} {p pos : Pos} (F : ExcBaseFacts B newId initId bmB) (q : PySem.W.excIn X.K D bmB newId = true) (gC : X.mg x = some (.ref D)) (kC : PySem.W.keepIn X.K (.ref D) = true) (hg : Gl X x)
    (hdb : (x == ("__debug__" : Str)) = false) : PE X (.Call (.Name x p) [] [] pos) (fun _ H Q => ∀ e, H e = none → Q (.ref e) (upd H e (ErrH D none e))) := by
  refine ⟨fun pins s σ H Q I h => ?_⟩
  refine wpAny_Call_Name_kw (ld_glob I hg gC ?_ hdb)
  refine PySem.W.callWith_K0 I.kIn kC ?_
  show wpAny _ _ (call (.ref D) []) _ _ _
  obtain ⟨hp, g, dr, tk, os⟩ := s
  obtain ⟨bm, N, nm, qn, bs, hdct, sn, sub, ab, col, dd, k0, k1, k2, k3, k5, mN, hC, hN, hni, T⟩ := exc_obj I.kIn q
  refine wpAny_call_exc_subT F T hC hN hni (fun h' e hm => ?_) (by show 0 ≤ sizeLine; omega)
  obtain ⟨t, he, _, _⟩ := hm.there
  have hHe : H e = none := I.hok.gone hm.new
  have J := I.laidN (t' := tk) hm.keeps hm.new hHe (errH_ok (C := D) (od := none) he ⟨rfl, rfl⟩ rfl)
  exact ⟨.ref e, _, J, rfl, h e hHe⟩
end
def ObjK (K : PySem.W.Frag) (mg : Str → Option Value) (c : Str) : Prop := ∃ C, mg c = some (.ref C) ∧ PySem.W.nsIn K mainGlobals c = some (some (.ref C))
def newErrS (c : Str) : Sem := fun ds g => match fldC c, ds with
  | some f, [d] => .ok (.obj c [f] [d]) g
  | none, [] => .ok (.obj c [] []) g
  | _, _ => .no
section
variable {G : Gho → Prop} {P : Program} {w : World} {K : PySem.W.Frag} {mg : Str → Option Value} {base : Heap} {k0 : Nat}
theorem kn_newErr {f c : Str} (hf : f.cps.toList = 46 :: 110 :: c.cps.toList) (F : MkFacts K mg c) (O : ObjK K mg c) : KnowsX G P w K mg base k0 f (newErrS c) := by
  intro X N sc C W H0 x xs es ok hcm tk hP hw hK hmg hbase hx hsm hm hB hz
  subst hP hw hK hmg hbase
  have hx : mXS sc f x = some xs := by
    unfold mX at hx
    split at hx
    · rename_i e; subst e; cases hf
    split at hx
    · rename_i e; subst e; cases hf
    split at hx
    · rename_i e; subst e; cases hf
    split at hx
    · rename_i e; subst e; cases hf
    split at hx
    · rename_i e; subst e; cases hf
    · exact hx
  unfold mXS at hx
  rw [hf] at hx
  simp only at hx
  split at hx
  · rename_i y p ys pos _
    split at hx
    · rename_i hp
      cases hx
      simp only [Bool.and_eq_true, decide_eq_true_eq] at hp
      obtain ⟨⟨hy, hg⟩, hl⟩ := hp
      obtain rfl : y = c := by rw [hy]
      obtain ⟨g1, g2, _⟩ := ok.gl hg
      obtain ⟨Cc, oc1, oc2⟩ := O
      have main : PE X (.Call (.Name y p) xs [] pos) (tE C X.mg H0 W (.call f (newErrS y) es)) := by
        have hpa := pa_ofz hm hB hz
        refine ⟨fun pins s σ H Q I hq => ?_⟩
        obtain ⟨B, ρ, γ, S, hq⟩ := hq
        rw [ev] at hq
        unfold MkFacts at F
        cases hfl : fldC y with
        | none =>
          unfold nArg at hl
          rw [hfl] at F
          obtain ⟨D, bmB, f1, f2, rfl, f4, f5, f6⟩ := F
          obtain rfl : D = Cc := by rw [f1] at oc1; cases oc1; rfl
          rw [hfl] at hl
          obtain rfl : xs = [] := List.length_eq_zero_iff.mp hl
          cases es with
          | cons e es => simp [mEs] at hm
          | nil =>
            rw [evs] at hq
            have hq : Done C B H γ .clean (.obj y [] []) Q := by
              have e1 : newErrS y [] γ = .ok (.obj y [] []) γ := by unfold newErrS; rw [hfl]
              have h1 : Fin C X.mg W B σ H (newErrS y [] γ) _ := hq.bind
              rw [e1] at h1
              exact h1
            refine (pe_newErr0 PySem.F.excBase_ValueError f2 f1 f4 g1 g2).run pins s σ H Q I fun e he => ?_
            refine hq (.ref e) (upd B e (ErrH D none e)) _ (Ext.allocB S.sub he) (C.stayE S.gh he) ?_
            exact .exo (ok.hK ▸ oc2) upd_same (.inl ⟨rfl, rfl, rfl⟩) .nil
        | some fl =>
          unfold nArg at hl
          rw [hfl] at F hl
          obtain ⟨D, fI, qn, T⟩ := F
          have f1 := T.gC
          obtain rfl : D = Cc := by rw [f1] at oc1; cases oc1; rfl
          match xs, hl with
          | [a], _ =>
          have hs : notStar a = true := by
            cases es with
            | nil => simp [mEs] at hm
            | cons e es =>
              simp only [mEs, Bool.and_eq_true] at hm
              exact hm.1.2
          refine (pe_newErr T (ok.room hcm) hpa g1 (starEach_cons hs) rfl).run pins s σ H Q I ?_
          refine ⟨B, ρ, γ, S, hq.bind.with.imp fun ds g h1 vs B1 H1 x1 g1' r1 => ?_⟩
          obtain ⟨hev, h1⟩ := h1
          have hdl := evs_len hev
          have hel : es.length = 1 := by
            cases es with
            | nil => simp [mEs] at hm
            | cons e es =>
              cases es with
              | nil => rfl
              | cons _ _ => simp [mEs] at hm
          rw [hel] at hdl
          match ds, hdl, r1 with
          | [d], _, .cons (v := v) rv .nil =>
          have h1 : Done C B H g .clean (.obj y [fl] [d]) Q := by
            have e1 : newErrS y [d] g = .ok (.obj y [fl] [d]) g := by unfold newErrS; rw [hfl]
            rw [e1] at h1
            exact h1
          refine ⟨v, rfl, fun p e hp he nep => ?_⟩
          have xa : Ext C.U B1 H1 (upd B1 p (.xd [(fl, v)])) (upd H1 p (.xd [(fl, v)])) := Ext.allocB x1.s hp
          have ga := C.stayE (o := .xd [(fl, v)]) g1' hp
          have he2 : upd H1 p (.xd [(fl, v)]) e = none := by rw [upd_ne nep]; exact he
          have xb : Ext C.U (upd B1 p (.xd [(fl, v)])) (upd H1 p (.xd [(fl, v)])) (upd (upd B1 p (.xd [(fl, v)])) e (ErrH D (some p) e)) (upd (upd H1 p (.xd [(fl, v)])) e (ErrH D (some p) e)) := Ext.allocB xa.s he2
          have m : Same B1 (upd (upd B1 p (.xd [(fl, v)])) e (ErrH D (some p) e)) := xa.b.trans xb.b
          refine h1 (.ref e) _ _ ((x1.trans xa).trans xb) (C.stayE ga he2) ?_
          exact .exo (ok.hK ▸ oc2) upd_same (.inr ⟨p, fl, v, rfl, rfl, rfl, by rw [upd_ne (Ne.symm nep)]; exact upd_same⟩) (.cons (Rep.mono m _ _ rv) .nil)
      exact ⟨main, t_val rfl main⟩
    · cases hx
  · cases hx
/-- a value's class is asked for -/
def isaS (L : List Str) (x : Str) : Sem := fun ds g => match ds with
  | [.obj c _ _] => if c ∈ L ∧ knownE L x = true then .ok (.bl (subE c x)) g else .no
  | _ => .no
def ObjFacts (K : PySem.W.Frag) (mg : Str → Option Value) (L : List Str) : Prop := ∀ c ∈ L, ∃ D, TryOk K mg L c D ∧ PySem.W.nsIn K mainGlobals c = some (some (.ref D))
theorem inst_H {X : Cx} {pins : List (Addr × Obj)} {σ : L2.St} {H : Hp} {s : Shared} {a D : Addr} {od : Option Addr} (I : Inv X pins σ H s) (h : H a = some (ErrH D od a)) (hx : XdAt H od) : ∃ oe od', PySem.W.InstAt s.heap a oe D od' := by
  obtain ⟨⟨oe, ws, hget, hz, hv⟩, _, _⟩ := (show ObjOk X.prog X.w H s.heap a (ErrH D od a) from I.hok a _ h)
  have hn : PySem.W.notCls oe = true := by unfold PySem.W.notCls; rw [hv] <;> rfl
  cases od with
  | none => exact ⟨oe, none, hget, hz.1, hn, by rw [hz.2]; trivial⟩
  | some p =>
    obtain ⟨fs, h1⟩ := hx
    have hxx : ObjOk X.prog X.w H s.heap p (.xd fs) := I.hok p _ h1
    obtain ⟨mA, hns, hr⟩ := hxx
    obtain ⟨od, ho, hl⟩ := lookIn_ns hns
    exact ⟨oe, some od, hget, hz.1, hn, by rw [hz.2]; exact ho⟩
theorem call_isV {X : Cx} {v : V} {u : Value} (hu : ∀ u', RelV v u' → u' = u) :
    CallR X (.builtin "isinstance") (fun xs H Q => ∃ (a D : Addr) (od : Option Addr) (b : Bool), xs = [.ref a, v] ∧ H a = some (ErrH D od a) ∧ XdAt H od ∧ (∀ {x : Addr} {ox : Obj} {od : Option Obj}, PySem.W.KitX X.K (.ref x) (.ref D) (fun h => PySem.W.InstAt h x ox D od)) ∧ PySem.W.kitOne X.K (.ref D) u = some b ∧ Q (.bl b) H) := by
  intro pins s σ H xs us Q I r h
  obtain ⟨a, D, od, b, rfl, ha, hx, kx, e, q⟩ := h
  cases r with
  | cons rx rr =>
    cases rr with
    | cons rt rr =>
      cases rr
      cases rx
      obtain rfl := hu _ rt
      obtain ⟨oe, od', J⟩ := inst_H I ha hx
      exact PySem.W.kia_one kx I.kIn J e (fun z => nomatch z) fun tk => ⟨.bl b, H, I.kept (t' := tk) fun _ _ z => z, rfl, q⟩
theorem errD_xd {B H : Hp} (s : Same B H) {od : Option Addr} {ns : List Str} {xs : List V} (h : ErrD B od ns xs) : XdAt H od := by
  rcases h with ⟨rfl, _, _⟩ | ⟨p, f, x, rfl, _, _, h⟩
  · trivial
  · exact ⟨_, s _ _ h⟩
theorem kn_isa {f x0 : Str} {L : List Str} (hf : f.cps.toList = 46 :: 105 :: x0.cps.toList) (F : ObjFacts K mg L) (hne : L ≠ []) (hk : knownE L x0 = true) : KnowsX G P w K mg base k0 f (isaS L x0) := by
  intro X N sc C W H0 x xs es ok hcm tk hP hw hK hmg hbase hx hsm hm hB hz
  subst hP hw hK hmg hbase
  have hx : mXS sc f x = some xs := by
    unfold mX at hx
    split at hx
    · rename_i e; subst e; cases hf
    split at hx
    · rename_i e; subst e; cases hf
    split at hx
    · rename_i e; subst e; cases hf
    split at hx
    · rename_i e; subst e; cases hf
    split at hx
    · rename_i e; subst e; cases hf
    · exact hx
  unfold mXS at hx
  rw [hf] at hx
  simp only at hx
  split at hx
  · rename_i y p e0 z p2 pos _
    split at hx
    · rename_i hp
      cases hx
      simp only [Bool.and_eq_true, decide_eq_true_eq] at hp
      obtain ⟨⟨⟨⟨rfl, h1⟩, hz0⟩, h3⟩, hs⟩ := hp
      obtain rfl : z = x0 := by rw [hz0]
      match es, hz, hB with
      | [], hz, _ => exact hz.elim
      | _ :: _ :: _, hz, _ => exact hz.2.elim
      | [e], hz, hB =>
      obtain ⟨c0, hc0⟩ := List.exists_mem_of_ne_nil L hne
      obtain ⟨D0, T0, _⟩ := F c0 hc0
      obtain ⟨v, u, m1, q2', q2, _⟩ := T0.2.2.1 z hk
      have q1 : ∀ pos, PE X (.Name z pos) (tC v) := fun pos => by
        obtain ⟨a1, a2, a3⟩ := ok.gl h3
        rcases m1 with ⟨b1, _⟩ | ⟨b1, b5, b6⟩
        · exact pe_glob a1 b1 q2' a2
        · exact pe_bltn a1 b1 b5 q2' b6 a2
      obtain ⟨g1, g2, g3⟩ := ok.gl h1
      have ka := (noB_two hB).1
      have main : PE X (.Call (.Name "isinstance" p) [e0, .Name z p2] [] pos) (tE C X.mg H0 W (.call f (isaS L z) [e])) := by
        refine ⟨fun pins s σ H Q I hq => ?_⟩
        obtain ⟨B, ρ, γ, S, hq⟩ := hq
        refine (pe_callB (call_isV q2) g1 (ok.bt _ (by decide +kernel)) (by decide +kernel) (pa_cons hz.1 (pa_cons (q1 p2) pa_nil (starEach_cons rfl)) (starEach_cons hs)) g3 g2 (starEach_cons hs) rfl).run pins s σ H Q I ?_
        simp only [ev, evs] at hq
        refine ⟨B, ρ, γ, S, hq.bind.bind.imp fun d g h1 => Done.le (k := .clean) ka fun w B1 H1 x1 g1 r1 => ?_⟩
        have h9 : Fin C X.mg W B σ H (isaS L z [d] g) (fun d g2 => Done C B H g2 .clean d Q) := h1
        clear h1
        unfold isaS at h9
        split at h9
        · rename_i c ns vs heq
          cases heq
          split at h9
          · rename_i hc
            cases r1 with
            | exo n1 n2 n3 n4 =>
              obtain ⟨D, T, hD⟩ := F c hc.1
              rw [ok.hK, hD] at n1
              cases n1
              obtain ⟨v', u', n5, p2', p3, p4⟩ := T.2.2.1 z hk
              have eu : u = u' := by
                rcases m1 with ⟨b1, _⟩ | ⟨b1, b5, _⟩
                · rcases n5 with ⟨c1, _⟩ | ⟨c1, _⟩
                  · rw [b1] at c1; cases c1; rfl
                  · rw [b1] at c1; cases c1
                · rcases n5 with ⟨c1, _⟩ | ⟨c1, c5, _⟩
                  · rw [b1] at c1; cases c1
                  · rw [b5] at c5; cases c5; rfl
              exact ⟨_, _, _, subE c z, rfl, x1.s _ _ n2, errD_xd x1.s n3, T.2.1, by rw [eu]; exact p4, h9 (.bl _) B1 H1 x1 g1 (.bl _)⟩
          · exact h9.elim
        · exact h9.elim
      exact ⟨main, t_val rfl main⟩
    · cases hx
  · cases hx
/-- a value's field -/
def fldS (L : List Str) (fl : Str) : Sem := fun ds g => match ds with
  | [.obj c [n] [d]] => if c ∈ L ∧ fldC c = some fl ∧ n = fl then .ok d g else .no
  | _ => .no
theorem kn_fld {f fl : Str} {L : List Str} (hf : f.cps.toList = 46 :: 102 :: fl.cps.toList) (F : ObjFacts K mg L) : KnowsX G P w K mg base k0 f (fldS L fl) := by
  intro X N sc C W H0 x xs es ok hcm tk hP hw hK hmg hbase hx hsm hm hB hz
  subst hP hw hK hmg hbase
  have hx : mXS sc f x = some xs := by
    unfold mX at hx
    split at hx
    · rename_i e; subst e; cases hf
    split at hx
    · rename_i e; subst e; cases hf
    split at hx
    · rename_i e; subst e; cases hf
    split at hx
    · rename_i e; subst e; cases hf
    split at hx
    · rename_i e; subst e; cases hf
    · exact hx
  unfold mXS at hx
  rw [hf] at hx
  simp only at hx
  split at hx
  · rename_i z q y pos _
    split at hx
    · rename_i hp
      cases hx
      rw [decide_eq_true_eq] at hp
      obtain rfl : y = fl := by rw [hp]
      match es, hz, hB with
      | [], hz, _ => exact hz.elim
      | _ :: _ :: _, hz, _ => exact hz.2.elim
      | [e], hz, hB =>
      have ka := (noB_two hB).1
      have main : PE X (.Attribute (.Name z q) y pos) (tE C X.mg H0 W (.call f (fldS L y) [e])) := by
        refine ⟨fun pins s σ H Q I hq => ?_⟩
        obtain ⟨B, ρ, γ, S, hq⟩ := hq
        let Q1 : VK := fun x H1 => ∃ (a D p : Addr) (c : Str) (v0 : V), x = .ref a ∧ H1 a = some (ErrH D (some p) a) ∧ H1 p = some (.xd [(y, v0)]) ∧ TryOk X.K X.mg L c D ∧ fldC c = some y ∧ Q v0 H1
        simp only [ev, evs] at hq
        have h0 : tE C X.mg H0 W e σ H Q1 := by
          refine ⟨B, ρ, γ, S, hq.bind.bind.imp fun d g h1 => Done.le (k := .clean) ka fun w B1 H1 x1 g1 r1 => ?_⟩
          have h9 : Fin C X.mg W B σ H (fldS L y [d] g) (fun d g2 => Done C B H g2 .clean d Q) := h1
          clear h1
          unfold fldS at h9
          split at h9
          · rename_i c n d0 heq
            cases heq
            split at h9
            · rename_i hc
              obtain ⟨hc1, hc2, rfl⟩ := hc
              cases r1 with
              | exo n1 n2 n3 n4 =>
                obtain ⟨D, T, hD⟩ := F c hc1
                rw [ok.hK, hD] at n1
                cases n1
                rcases n3 with ⟨_, n5, _⟩ | ⟨p, f', v0, rfl, n6, rfl, n8⟩
                · cases n5
                · cases n6
                  cases n4 with
                  | cons n9 _ => exact ⟨_, _, p, c, v0, rfl, x1.s _ _ n2, x1.s _ _ n8, T, hc2, h9 v0 B1 H1 x1 g1 n9⟩
            · exact h9.elim
          · exact h9.elim
        refine attr_of rfl (thn (hz.1.run pins s σ H Q1 I h0) fun u s1 hh => ?_)
        obtain ⟨x, H1, I1, rx, a, D, p, c, v0, rfl, e1, e2, T, hfl, hQ⟩ := hh
        obtain rfl : u = Value.ref a := rx
        obtain ⟨⟨oe, ws, hget, hzc, hv⟩, _, _⟩ := (show ObjOk X.prog X.w H1 s1.heap a (ErrH D (some p) a) from I1.hok a _ e1)
        have hn : PySem.W.notCls oe = true := by unfold PySem.W.notCls; rw [hv] <;> rfl
        have hxx : ObjOk X.prog X.w H1 s1.heap p (.xd [(y, v0)]) := I1.hok p _ e2
        obtain ⟨mA, hns, hr⟩ := hxx
        obtain ⟨od, ho, hl⟩ := lookIn_ns hns
        have l : List.lookup y [(y, v0)] = some v0 := by simp [List.lookup]
        obtain ⟨u, hu, ru⟩ := RelO.some_of (v := v0) (o := mA y) (by rw [← l]; exact hr y)
        have J : PySem.W.InstAt s1.heap a oe D (some od) := ⟨hget, hzc.1, hn, by rw [hzc.2]; exact ho⟩
        obtain ⟨_, _, _, ga, gg, gs, gd, gn⟩ := T
        exact HandSPX.exc_get I1.kIn J ga gg gs (PySem.W.findObj_own gd (gn y hfl) rfl (by rw [hl, hu])) (handed_of ru) ⟨v0, H1, I1.tok _, ru, hQ⟩
      exact ⟨main, t_val rfl main⟩
    · cases hx
  · cases hx
theorem know_newErr {f c : Str} (F : MkFacts K mg c) (O : ObjK K mg c) (hf : f.cps.toList = 46 :: 110 :: c.cps.toList) (hd : isPat f = true := by decide +kernel) : Knows G P w K mg base k0 f (newErrS c) := .inr (.inl ⟨hd, kn_newErr hf F O⟩)
theorem know_isa {f x0 : Str} {L : List Str} (F : ObjFacts K mg L) (hf : f.cps.toList = 46 :: 105 :: x0.cps.toList) (hne : L ≠ []) (hk : knownE L x0 = true) (hd : isPat f = true := by decide +kernel) : Knows G P w K mg base k0 f (isaS L x0) := .inr (.inl ⟨hd, kn_isa hf F hne hk⟩)
theorem know_fld {f fl : Str} {L : List Str} (F : ObjFacts K mg L) (hf : f.cps.toList = 46 :: 102 :: fl.cps.toList) (hd : isPat f = true := by decide +kernel) : Knows G P w K mg base k0 f (fldS L fl) := .inr (.inl ⟨hd, kn_fld hf F⟩)
end
section
variable {K : PySem.W.Frag} {mg : Str → Option Value} {h : Heap} {L : List Str}
/-- all that is told of the classes of errors, from the written part -/
theorem objs_of (KX : K.In h) (Gn : h.Ns mainGlobals mg) (hP : ∃ P, mg "PassError" = some (.ref P)) (e : errsB K L = true) : ObjFacts K mg L := by
  obtain ⟨P, _, T⟩ := try_of KX Gn hP e
  intro c hc
  obtain ⟨D, T, _⟩ := T c hc
  refine ⟨D, T, ?_⟩
  unfold errsB at e
  simp only [Bool.and_eq_true, beq_iff_eq, List.all_eq_true] at e
  have q := e.2 c hc
  unfold errB at q
  split at q
  · rename_i D' P' hD hP'
    have := PySem.W.mg_of KX Gn hD
    rw [T.1] at this
    cases this
    exact hD
  · cases q
theorem objK_of {c : Str} (F : ObjFacts K mg L) (hc : c ∈ L) : ObjK K mg c := by
  obtain ⟨D, T, hD⟩ := F c hc
  exact ⟨D, T.1, hD⟩
end
end PyI

set_option maxRecDepth 100000
namespace PyI
open PySem PySem.Spec PyProof.Rows L2
def top (i : Nat) : Stmt := PySem.Challenge.pw_lanerules_k01_limits_and_errors.main.body.getD i (.Pass ⟨0, 0, 0, 0⟩)
abbrev tRoll : Stmt := top 38
theorem scRoll : FnScope rollN ["_law_can", "_law_many"] (defScope tRoll) := ⟨rfl, rfl, rfl, by decide +kernel, rfl, by decide +kernel, by decide +kernel⟩
theorem ok_roll {P : Program} {w : World} {K : PySem.W.Frag} {mg : Str → Option Value} {base : Heap} (DA : DefAt K mg "_law_roll" tRoll ["_law_can", "_law_many"]) (hbt : ∀ x ∈ biNames, mg x = none) : Knows isCan P w K mg base 1 "_law_roll" rollS := by
  obtain ⟨a, fd, F, hm, bd⟩ := DA
  refine .inl ⟨by decide +kernel, 1, a, fd, _, Nat.le_refl _, fnG_of F scRoll ?_ ?_, hm, F.kp, bd, ?_⟩
  · rintro vs H Q E ⟨C, B, γ, ds, _, _, _, _, _, _, _, r, hl, _⟩
    rw [r.length, hl]
  · rintro cdv A outer s H vs Q E hg hr ⟨C, B, γ, ds, hK, hG, hn, sB, g, u, hnr, r, hl, hq⟩
    have ok : XOk isCan (cxOf (L2.CX P w) P w K mg base rollN "_law_roll" (defScope tRoll) a cdv A outer s H E) rollN (defScope tRoll) 0 C :=
      { hN := rfl, nd := scRoll.nd, sc := fun x q h => ⟨q, h, .inl rfl⟩, calm := fun _ => rfl, nr := fun _ => hnr, er := fun L c a od h => (hnr L c a od h).elim, gd := hg, room := fun _ => hr, unt := room_unt hr, hK := hK, hG := hG, hn := hn, bt := hbt, fn := fun _ _ => rfl }
    have tk : Takes (cxOf (L2.CX P w) P w K mg base rollN "_law_roll" (defScope tRoll) a cdv A outer s H E) (fun cls d _ H => E cls d H) := takes_of rfl rfl rfl rfl
    obtain ⟨n, many, dp, al, t, rr, g', rfl, rfl, c1, c2, c3, c4, hR, hp⟩ := rollS_ok (ds := ds) (g := γ) (fun e => by rw [e] at hq; exact hq)
    rw [hp] at hq
    have hq : Done C B H g' .clean (.int rr) Q := hq
    obtain ⟨K', d, l1, l2, n1, n2, n3, rfl⟩ := hG
    obtain rfl : K' = K := hK
    cases r with
    | cons r1 rest =>
    cases rest with
    | cons r2 rest =>
    cases rest
    cases r2
    cases r1
    obtain ⟨dp0, al0, t0, e0, hd, hL1, hL2⟩ := g
    obtain ⟨rfl, rfl, rfl⟩ := canD_inj e0
    have hu : (A.deeper (envOfC "_law_roll" (defScope tRoll) s.heap.objs.size a cdv)).units + 65 < cLine := ok.units
    have hu1 : (A.deeper (envOfC "_law_roll" (defScope tRoll) s.heap.objs.size a cdv)).units + 1 < cLine := by omega
    have rest := sSs (B0 := B) (H0 := H) restRoll ok tk ⟨passes_of rfl, rfl, rfl⟩ (x := (defBody tRoll).drop 4) (by decide +kernel) (by simp [restRoll, allSs, allS, allE])
    have glen : bootBuiltins "len" = some (.builtin "len") := by decide +kernel
    refine ⟨_, pss_cons (ps_while (passes_of rfl) (pt_cmpR (cmp_ok (C := noG K') rfl (fun _ h => nomatch h) hu .ne) (pe_dget hu1 (pv 0) pe_str (fun _ _ => rfl)) (pe_lst pa_nil) rfl)
        (pss_cons (ps_set (i := 2) scRoll.nd rfl (Or.inl rfl) (pe_bm PySem.F.plainAttrs_list PySem.F.slot_list_pop PySem.F.type_list_pop mt_popAt (pe_dget hu1 (pv 0) pe_str (fun _ _ => rfl)) (pa_cons pe_int pa_nil)))
        (pss_one (ps_if (pt_cmpR op_gt (pv 2) pe_int rfl)
          (pss_cons (ps_expr (pe_bm PySem.F.plainAttrs_list PySem.F.slot_list_insert PySem.F.type_list_insert mt_insert (pe_dget hu1 (pv 0) pe_str (fun _ _ => rfl)) (pa_cons pe_int (pa_cons (pe_op op_fdivN (pv 2) (pv 1)) pa_nil))))
            (pss_one (ps_ret (pe_op op_modN (pv 2) (pv 1))))) pss_nil))))
      (pss_cons (ps_par (i := 3) (j := 4) (ok.calm rfl) scRoll.nd rfl rfl (by decide) rfl rfl (pa_cons (pe_dget hu1 (pv 0) pe_str (fun _ _ => rfl)) (pa_cons (pe_dget hu1 (pv 0) pe_str (fun _ _ => rfl)) pa_nil)) (sw2 rfl rfl rfl rfl (by decide) rfl rfl rfl rfl))
      (pss_cons (ps_dput hu1 (pv 0) pe_str (pe_op op_add (pv 3) pe_int) rfl)
      (pss_cons (ps_set (i := 5) scRoll.nd rfl (Or.inl rfl) (pe_op op_add (pe_op op_modN (pe_ix ix_list (pv 4) (pe_op op_modN (pv 3) (pe_callB call_len_seq rfl (hbt _ (by decide +kernel)) glen (pa_cons (pv 4) pa_nil))) (fun _ _ => rfl)) pe_int) (pe_op op_mul pe_int (pe_op op_add (pv 3) pe_int))))
      rest))), ?_⟩
    have ld : d ≠ l1 ∧ d ≠ l2 ∧ l1 ≠ l2 := ⟨n1, n2, n3⟩
    have hU : ∀ a, canU d l1 l2 a → B a = none := u
    refine ⟨fun m σ' H' => ∃ dp' rs, m = dp'.length ∧ σ' = [some (V.ref d), some (V.int many), rs, none, none, none] ∧ Ext (canU d l1 l2) B H B H' ∧ H' d = some (.dK (canV l1 l2 t)) ∧ H' l1 = some (.lst (dp'.map V.int)) ∧ H' l2 = some (.lst (al.map V.int)) ∧ rollDeep many dp' = rollDeep many dp ∧ dp'.length ≤ 100,
      ⟨_, dp, none, rfl, rfl, Ext.refl sB, hd, hL1, hL2, rfl, c2⟩, ?_⟩
    rintro m σ' H' ⟨dp', rs, rfl, rfl, x, hd', h1', h2', hroll, hlen⟩
    have ke : ∀ {H2 : Hp}, H2 d = some (.dK (canV l1 l2 t)) → DGet H2 d (.str "deep") (some (.ref l1)) := fun h => DGet.k (kvs := canV l1 l2 t) (k := .inr "deep") h
    have kt : ∀ {H2 : Hp}, H2 d = some (.dK (canV l1 l2 t)) → DGet H2 d (.str "times") (some (.int t)) := fun h => DGet.k (kvs := canV l1 l2 t) (k := .inr "times") h
    have ka : ∀ {H2 : Hp}, H2 d = some (.dK (canV l1 l2 t)) → DGet H2 d (.str "all") (some (.ref l2)) := fun h => DGet.k (kvs := canV l1 l2 t) (k := .inr "all") h
    refine ⟨_, rfl, d, .ref l1, rfl, ke hd', ?_⟩
    refine ⟨by decide, fun p hp => ?_⟩
    have pd : d ≠ p := ne_of_none hd' hp
    have p1 : l1 ≠ p := ne_of_none h1' hp
    have p2 : l2 ≠ p := ne_of_none h2' hp
    have xp : Ext (canU d l1 l2) B H B (upd H' p (.lst [])) := x.trans (Ext.alloc x.s hp)
    have hd2 : upd H' p (.lst []) d = some (.dK (canV l1 l2 t)) := by rw [upd_ne pd]; exact hd'
    have h12 : upd H' p (.lst []) l1 = some (.lst (dp'.map V.int)) := by rw [upd_ne p1]; exact h1'
    have h22 : upd H' p (.lst []) l2 = some (.lst (al.map V.int)) := by rw [upd_ne p2]; exact h2'
    have hp2 : upd H' p (.lst []) p = some (.lst []) := upd_same
    generalize upd H' p (.lst []) = H2 at *
    have rdp : ∀ ns : List Int, Reps K' (noG K').hv (fun _ => none) (ns.map V.int) (ns.map D.int) := fun ns => by
      induction ns with
      | nil => exact .nil
      | cons n ns ih => exact .cons (.int n) ih
    refine ⟨fun _ => none, .non, .lst (dp'.map .int), .lst [], !decide (dp'.map D.int = []), (fun _ _ h => nomatch h), trivial, .inr (.inl ⟨l1, _, _, rfl, rfl, h12, fun h => h, rdp dp'⟩), .inr (.inl ⟨p, [], [], rfl, rfl, hp2, fun h => h, .nil⟩), eqF_nilB, _, rfl, ?_⟩
    have m0 : many ≠ 0 := by omega
    cases dp' with
    | cons c r =>
      refine ⟨fun σ'' H'' => ∃ rs, σ'' = [some (V.ref d), some (V.int many), rs, none, none, none] ∧ Ext (canU d l1 l2) B H B H'' ∧ H'' d = some (.dK (canV l1 l2 t)) ∧ H'' l1 = some (.lst (r.map V.int)) ∧ H'' l2 = some (.lst (al.map V.int)) ∧ rollDeep many r = rollDeep many dp,
        (fun σ'' H'' ⟨rs, e1, e2, e3, e4, e5, e6⟩ => ⟨_, Nat.lt_succ_self _, r, rs, rfl, e1, e2, e3, e4, e5, e6, by rw [List.length_cons] at hlen; omega⟩), ?_⟩
      refine ⟨_, rfl, d, .ref l1, rfl, ke hd2, .inl ⟨rfl, _, SqL.of h12⟩, l1, _, 0, 0, .int c, rfl, rfl, h12, by decide, by decide, ?_, rfl, ?_⟩
      · have e : ∀ k : Nat, seqIndex? 0 (k + 1) = some 0 := fun k => by
          unfold seqIndex?
          have h1 : (decide ((0 : Int) ≤ 0) && decide ((0 : Int) < ((k + 1 : Nat) : Int))) = true := by
            rw [Bool.and_eq_true, decide_eq_true_eq, decide_eq_true_eq]
            omega
          exact if_pos h1
        rw [List.length_map, List.length_cons]
        exact e _
      have xq : Ext (canU d l1 l2) B H B (upd H2 l1 (.lst (r.map V.int))) := ext_can xp hU (fun a _ h => by
        by_cases e : a = l1
        · subst e; rw [upd_same]; exact fun z => nomatch z
        · rw [upd_ne e]; exact h) (fun a h => upd_ne fun e => h (.inr (.inl e)))
      have hd3 : upd H2 l1 (.lst (r.map V.int)) d = some (.dK (canV l1 l2 t)) := by rw [upd_ne n1]; exact hd2
      have h13 : upd H2 l1 (.lst (r.map V.int)) l1 = some (.lst (r.map V.int)) := upd_same
      have h23 : upd H2 l1 (.lst (r.map V.int)) l2 = some (.lst (al.map V.int)) := by rw [upd_ne (Ne.symm n3)]; exact h22
      refine ⟨_, rfl, c, 0, rfl, rfl, _, rfl, ?_⟩
      by_cases hc : 0 < c
      · dsimp only
        rw [if_pos (decide_eq_true hc)]
        have hdr : rollDeep many dp = some (c.fmod many, c.fdiv many :: r) := by
          rw [← hroll, rollDeep, if_pos hc]
        have hrr : rr = c.fmod many ∧ g' = canD (c.fdiv many :: r) al t := by
          unfold rollR at hR
          rw [hdr] at hR
          cases hR
          exact ⟨rfl, rfl⟩
        obtain ⟨rfl, rfl⟩ := hrr
        refine ⟨_, rfl, d, .ref l1, rfl, ke hd3, .inl ⟨rfl, _, SqL.of h13⟩, _, rfl, _, rfl, c, many, rfl, rfl, ⟨m0, by omega⟩, l1, _, 0, _, rfl, rfl, h13, ?_, by decide, by decide, ?_⟩
        · rw [List.length_map]
          rw [List.length_cons] at hlen
          have := sizeLine_eq
          omega
        refine ⟨_, rfl, _, rfl, c, many, rfl, rfl, m0, ?_⟩
        refine hq _ B _ (ext_can xq hU (fun a _ h => by
          by_cases e : a = l1
          · subst e; rw [upd_same]; exact fun z => nomatch z
          · rw [upd_ne e]; exact h) (fun a h => upd_ne fun e => h (.inr (.inl e)))) ⟨_, al, t, rfl, ?_, ?_, ?_⟩ (.int _)
        · rw [upd_ne n1]; exact hd3
        · rw [upd_same]; rfl
        · rw [upd_ne (Ne.symm n3)]; exact h23
      · dsimp only
        rw [if_neg (by simpa using hc)]
        refine ⟨_, rfl, xq, hd3, h13, h23, ?_⟩
        rw [← hroll, rollDeep, if_neg hc]
    | nil =>
      have hdr : rollDeep many dp = none := by rw [← hroll]; rfl
      obtain ⟨j, c, hj, hc, hrr, hg'⟩ : ∃ j c, ixN al.length (t.fmod al.length) = some j ∧ al[j]? = some c ∧ rr = seedD c t many ∧ g' = canD [] al (t + 1) := by
        unfold rollR at hR
        rw [hdr] at hR
        simp only at hR
        split at hR
        · rename_i j hj
          split at hR
          · rename_i c hc
            cases hR
            exact ⟨j, c, hj, hc, rfl, rfl⟩
          · cases hR
        · cases hR
      subst hrr hg'
      have hd3 : upd H2 d (.dK (canV l1 l2 (t + 1))) d = some (.dK (canV l1 l2 (t + 1))) := upd_same
      have h13 : upd H2 d (.dK (canV l1 l2 (t + 1))) l1 = some (.lst ([].map V.int)) := by rw [upd_ne (Ne.symm n1)]; exact h12
      have h23 : upd H2 d (.dK (canV l1 l2 (t + 1))) l2 = some (.lst (al.map V.int)) := by rw [upd_ne (Ne.symm n2)]; exact h22
      have kp : DPut H2 d (.str "times") (.int (t + 1)) (upd H2 d (.dK (canV l1 l2 (t + 1)))) := DPut.k (kvs := canV l1 l2 t) (k := .inr "times") (v := .int (t + 1)) hd2 (by show 3 < sizeLine; decide)
      have hln : (al.map V.int).length = al.length := List.length_map ..
      have hne : ((al.map V.int).length : Int) ≠ 0 := by
        rw [hln]
        have : al.length ≠ 0 := fun e => c1.1 (List.length_eq_zero_iff.mp e)
        omega
      have hcv : (al.map V.int)[j]? = some (.int c) := by rw [List.getElem?_map, hc]; rfl
      refine ⟨_, rfl, d, .int t, rfl, kt hd2, _, rfl, d, .ref l2, rfl, ka hd2, _, _, rfl, ?_⟩
      refine ⟨_, rfl, t, 1, rfl, rfl, _, rfl, d, _, rfl, kp, ?_⟩
      refine ⟨_, rfl, _, rfl, _, rfl, l2, _, rfl, .inl (SqL.of h23), t, _, rfl, rfl, hne, l2, _, _, .int c, rfl, rfl, SqL.of h23, ?_, c, 2971215073, rfl, rfl, (show (2971215073 : Int) ≠ 0 by decide), ?_⟩
      · unfold atI
        rw [hln, hj]; exact hcv
      refine ⟨_, rfl, t, 1, rfl, rfl, 3141592653, t + 1, rfl, rfl, .inl ⟨by decide, by decide⟩, _, _, rfl, rfl, ?_⟩
      have x1 : Ext (canU d l1 l2) B H B (upd H2 d (.dK (canV l1 l2 (t + 1)))) := ext_can xp hU (fun a _ h => by
        by_cases e : a = d
        · subst e; rw [upd_same]; exact fun z => nomatch z
        · rw [upd_ne e]; exact h) (fun a h => upd_ne fun e => h (.inl e))
      refine ⟨B, [.val (.han 0), .val (.int many), .un, .val (.int t), .un, .val (.int (c.fmod 2971215073 + 3141592653 * (t + 1)))], canD [] al (t + 1), ?_, x1, ?_⟩
      · exact {
          sub := x1.s
          uB := u
          gh := ⟨[], al, t + 1, rfl, hd3, h13, h23⟩
          len := rfl
          val := fun i d' h => by
            match i, h with
            | 0, h => cases h; exact ⟨_, rfl, .han 0⟩
            | 1, h => cases h; exact ⟨_, rfl, .int _⟩
            | 2, h => cases h
            | 3, h => cases h; exact ⟨_, rfl, .int _⟩
            | 4, h => cases h
            | 5, h => cases h; exact ⟨_, rfl, .int _⟩
            | i + 6, h => cases h
          ol := fun i d' h => by
            match i, h with
            | 0, h | 1, h | 2, h | 3, h | 4, h | 5, h => cases h
            | i + 6, h => cases h
          od := fun i d' h => by
            match i, h with
            | 0, h | 1, h | 2, h | 3, h | 4, h | 5, h => cases h
            | i + 6, h => cases h
          er := fun i L c fs h => by
            match i, h with
            | 0, h | 1, h | 2, h | 3, h | 4, h | 5, h => cases h
            | i + 6, h => cases h
          apart := fun i j s t' l' h1 h2 h3 h4 h5 h6 => by
            match i, h1 with
            | 0, h1 | 1, h1 | 2, h1 | 3, h1 | 4, h1 | 5, h1 => cases h1; cases h3
            | i + 6, h1 => cases h1 }
      · rw [roll_run c1.2.1]
        exact fun v B' H' x g r => hq v B' H' x g r
  · intro ds γ h
    unfold rollS
    split
    · simp at h
    · rfl
end PyI

set_option maxRecDepth 100000
set_option maxHeartbeats 0
namespace PyI
open PySem PySem.Spec PyProof.Rows L2
def fuel : Nat := 1000000
abbrev t__law_roll : Stmt := top 38
def s__law_roll : Sem := rollS
def d_BATCH : D := .int 20
def d_HISTORY : D := .int 30
def d_MAX_CARS : D := .int 40
def d_MAX_LANES : D := .int 6
def d_SMALL : D := .int 8
def errL : List Str := ["Absent", "BadBatch", "BadCount", "BadDay", "BadRow", "BadRule", "BadText", "BadWish", "BadWord", "Busy", "Empty", "Impossible", "NoCar", "NoCount", "NoHistory", "NoIndex", "NoLane", "NoOrder", "NoPair", "NoPreference", "NoRule", "NoVersion", "NothingToUndo", "OtherLanes", "OtherOrder", "PassedOver", "Rejected", "TooLarge", "TooManyEdits"]
abbrev t__law_filled : Stmt := top 42
def n__law_filled : List Str := ["_law_error", "_law_kinds", "_law_k"]
def c1__law_filled : E := .lc (.one 2) (.rng1 (.c (.int 18))) [.idx (.v 1) (.v 2)] (.v 2)
def b__law_filled : List S := [.set 1 (.lst [.call ".iAbsent" (isaS errL "Absent") [.v 0], .call ".iBadCount" (isaS errL "BadCount") [.v 0], .call ".iBadDay" (isaS errL "BadDay") [.v 0]]), .set 1 (.bin .add (.v 1) (.lst [.call ".iBadRow" (isaS errL "BadRow") [.v 0], .call ".iBadRule" (isaS errL "BadRule") [.v 0], .call ".iBadText" (isaS errL "BadText") [.v 0]])), .set 1 (.bin .add (.v 1) (.lst [.call ".iBadWish" (isaS errL "BadWish") [.v 0], .call ".iBadWord" (isaS errL "BadWord") [.v 0], .call ".iNoCar" (isaS errL "NoCar") [.v 0]])), .set 1 (.bin .add (.v 1) (.lst [.call ".iNoCount" (isaS errL "NoCount") [.v 0], .call ".iNoIndex" (isaS errL "NoIndex") [.v 0], .call ".iNoLane" (isaS errL "NoLane") [.v 0]])), .set 1 (.bin .add (.v 1) (.lst [.call ".iNoPair" (isaS errL "NoPair") [.v 0], .call ".iNoVersion" (isaS errL "NoVersion") [.v 0], .call ".iOtherLanes" (isaS errL "OtherLanes") [.v 0]])), .set 1 (.bin .add (.v 1) (.lst [.call ".iPassedOver" (isaS errL "PassedOver") [.v 0], .call ".iRejected" (isaS errL "Rejected") [.v 0], .call ".iTooLarge" (isaS errL "TooLarge") [.v 0]])), .ret (c1__law_filled)]
def s__law_filled : Sem := fnD 1 3 b__law_filled
abbrev t__law_plain : Stmt := top 41
def n__law_plain : List Str := ["_law_error", "_law_kinds", "_law_k"]
def c1__law_plain : E := .lc (.one 2) (.rng1 (.c (.int 11))) [.idx (.v 1) (.v 2)] (.v 2)
def b__law_plain : List S := [.set 1 (.lst [.call ".iBadBatch" (isaS errL "BadBatch") [.v 0], .call ".iBusy" (isaS errL "Busy") [.v 0], .call ".iEmpty" (isaS errL "Empty") [.v 0]]), .set 1 (.bin .add (.v 1) (.lst [.call ".iImpossible" (isaS errL "Impossible") [.v 0], .call ".iNoHistory" (isaS errL "NoHistory") [.v 0], .call ".iNoOrder" (isaS errL "NoOrder") [.v 0]])), .set 1 (.bin .add (.v 1) (.lst [.call ".iNoPreference" (isaS errL "NoPreference") [.v 0], .call ".iNoRule" (isaS errL "NoRule") [.v 0], .call ".iNothingToUndo" (isaS errL "NothingToUndo") [.v 0]])), .set 1 (.bin .add (.v 1) (.lst [.call ".iOtherOrder" (isaS errL "OtherOrder") [.v 0], .call ".iTooManyEdits" (isaS errL "TooManyEdits") [.v 0]])), .ret (c1__law_plain)]
def s__law_plain : Sem := fnD 1 3 b__law_plain
abbrev t__law_alone : Stmt := top 43
def n__law_alone : List Str := ["_law_errors", "_law_others", "_law_k", "_law_error", "_law_every", "_law_strange"]
def l1__law_alone : S := .loop (.tup [2, 3]) (.enum (.v 0)) [.ift (.or [.cmp .ne (.call "_law_plain" s__law_plain [.v 3]) (.lst [.v 2]), .cmp .ne (.call "_law_filled" s__law_filled [.v 3]) (.lst [])]) [.ret (.c (.bl false))] []]
def l2__law_alone : S := .loop (.tup [2, 3]) (.enum (.v 1)) [.ift (.or [.cmp .ne (.call "_law_filled" s__law_filled [.v 3]) (.lst [.v 2]), .cmp .ne (.call "_law_plain" s__law_plain [.v 3]) (.lst [])]) [.ret (.c (.bl false))] []]
def c3__law_alone : E := .lc (.one 3) (.e (.v 4)) [.not (.call ".iPassError" (isaS errL "PassError") [.v 3])] (.v 3)
def c4__law_alone : E := .lc (.one 3) (.e (.v 4)) [.not (.call ".iValueError" (isaS errL "ValueError") [.v 3])] (.v 3)
def b__law_alone : List S := [l1__law_alone, l2__law_alone, .set 4 (.bin .add (.v 0) (.v 1)), .set 5 (c3__law_alone), .ret (.and [.cmp .eq (.v 5) (.lst []), .cmp .eq (c4__law_alone) (.lst [])])]
def s__law_alone : Sem := fnD 2 6 b__law_alone
abbrev t__law_made : Stmt := top 44
def n__law_made : List Str := ["_law_values", "_law_gone", "_law_number", "_law_day", "_law_line", "_law_table", "_law_text", "_law_wish", "_law_letters", "_law_car", "_law_many", "_law_item", "_law_lane", "_law_pair", "_law_state", "_law_lanes", "_law_over", "_law_batch", "_law_large", "_law_fields", "_law_made_here"]
def b__law_made : List S := [.par [(1, false), (2, false), (3, false)] [.call ".nAbsent" (newErrS "Absent") [.idx (.v 0) (.c (.int 0))], .call ".nBadCount" (newErrS "BadCount") [.idx (.v 0) (.c (.int 1))], .call ".nBadDay" (newErrS "BadDay") [.idx (.v 0) (.c (.int 2))]], .par [(4, false), (5, false), (6, false)] [.call ".nBadRow" (newErrS "BadRow") [.idx (.v 0) (.c (.int 3))], .call ".nBadRule" (newErrS "BadRule") [.idx (.v 0) (.c (.int 4))], .call ".nBadText" (newErrS "BadText") [.idx (.v 0) (.c (.int 5))]], .par [(7, false), (8, false), (9, false)] [.call ".nBadWish" (newErrS "BadWish") [.idx (.v 0) (.c (.int 6))], .call ".nBadWord" (newErrS "BadWord") [.idx (.v 0) (.c (.int 7))], .call ".nNoCar" (newErrS "NoCar") [.idx (.v 0) (.c (.int 8))]], .par [(10, false), (11, false), (12, false)] [.call ".nNoCount" (newErrS "NoCount") [.idx (.v 0) (.c (.int 9))], .call ".nNoIndex" (newErrS "NoIndex") [.idx (.v 0) (.c (.int 10))], .call ".nNoLane" (newErrS "NoLane") [.idx (.v 0) (.c (.int 11))]], .par [(13, false), (14, false), (15, false)] [.call ".nNoPair" (newErrS "NoPair") [.idx (.v 0) (.c (.int 12))], .call ".nNoVersion" (newErrS "NoVersion") [.idx (.v 0) (.c (.int 13))], .call ".nOtherLanes" (newErrS "OtherLanes") [.idx (.v 0) (.c (.int 14))]], .par [(16, false), (17, false)] [.call ".nPassedOver" (newErrS "PassedOver") [.idx (.v 0) (.c (.int 15))], .call ".nRejected" (newErrS "Rejected") [.idx (.v 0) (.c (.int 16))]], .set 18 (.call ".nTooLarge" (newErrS "TooLarge") [.idx (.v 0) (.c (.int 17))]), .set 19 (.lst [.call ".fcar" (fldS errL "car") [.v 1], .call ".findex" (fldS errL "index") [.v 2], .call ".findex" (fldS errL "index") [.v 3], .call ".ferror" (fldS errL "error") [.v 4], .call ".ferror" (fldS errL "error") [.v 5], .call ".findex" (fldS errL "index") [.v 6], .call ".findex" (fldS errL "index") [.v 7], .call ".ferror" (fldS errL "error") [.v 8]]), .set 19 (.bin .add (.v 19) (.lst [.call ".fvalue" (fldS errL "value") [.v 9], .call ".fvalue" (fldS errL "value") [.v 10], .call ".findex" (fldS errL "index") [.v 11], .call ".fvalue" (fldS errL "value") [.v 12], .call ".fvalue" (fldS errL "value") [.v 13], .call ".fversion" (fldS errL "version") [.v 14], .call ".fcount" (fldS errL "count") [.v 15]])), .set 19 (.bin .add (.v 19) (.lst [.call ".flane" (fldS errL "lane") [.v 16], .call ".findex" (fldS errL "index") [.v 17], .call ".flimit" (fldS errL "limit") [.v 18]])), .set 20 (.lst [.v 1, .v 2, .v 3, .v 4, .v 5, .v 6, .v 7, .v 8, .v 9, .v 10, .v 11, .v 12, .v 13, .v 14, .v 15, .v 16]), .ret (.lst [.bin .add (.v 20) (.lst [.v 17, .v 18]), .v 19])]
def s__law_made : Sem := fnD 1 21 b__law_made
abbrev t__law_one : Stmt := top 39
def n__law_one : List Str := ["_law_can", "_law_items"]
def b__law_one : List S := [.ret (.idx (.v 1) (.call "_law_roll" s__law_roll [.v 0, .bi .len [.v 1]]))]
def s__law_one : Sem := fnD 2 2 b__law_one
abbrev t__law_odd : Stmt := top 40
def n__law_odd : List Str := ["_law_can", "_law_items"]
def b__law_odd : List S := [.set 1 (.lst [.c .non, .c (.bl true), .c (.bl false), .neg (.c (.int 1)), .c (.int 0), .c (.int 1), .c (.int 6), .c (.int 7), .bin .pow (.c (.int 10)) (.c (.int 39)), .c (.str ""), .c (.str "a"), .c (.str "ap"), .c (.str "0"), .tup [], .lst [], .dct [] [], .tup [.c (.int 0)], .lst [.c (.int 0)], .tup [.c (.bl true)], .tup [.c (.int 0), .c (.int 1)]]), .ret (.call "_law_one" s__law_one [.v 0, .bin .add (.v 1) (.lst [.tup [.c (.str "a"), .c (.str "p")], .tup [.c (.int 1), .c (.int 0)], .c (.str "none"), .dct [(.str "a")] [.c (.int 0)], .tup [.tup [.c (.int 0)], .tup [.c (.int 0)]]])])]
def s__law_odd : Sem := fnD 1 2 b__law_odd
abbrev t__law_opened : Stmt := top 37
def n__law_opened : List Str := ["_law_script", "_law_cells", "_law_cell"]
def c1__law_opened : E := .lc (.one 2) (.e (.slc (.v 0) none (some (.c (.int 63))))) [] (.bi .abs [.v 2])
def c2__law_opened : E := .lc (.one 2) (.e (.v 1)) [.cmp .ge (.v 2) (.bin .pow (.c (.int 10)) (.c (.int 18)))] (.v 2)
def b__law_opened : List S := [.set 1 (c1__law_opened), .ret (.dct [(.str "deep"), (.str "all"), (.str "times")] [c2__law_opened, .bin .add (.v 1) (.bin .mul (.lst [.c (.int 61)]) (.bi .int [.cmp .eq (.v 1) (.lst [])])), .c (.int 0)])]
def s__law_opened : Sem := fnD 1 3 b__law_opened
abbrev t_law : Stmt := top 45
def n_law : List Str := ["_law_script", "_law_can", "_law_values", "_law_k", "_law_others", "_law_fields", "_law_errors"]
def c1_law : E := .lc (.one 3) (.rng1 (.c (.int 18))) [] (.call "_law_odd" s__law_odd [.v 1])
def b_law : List S := [.set 2 (c1_law), .unp (.tup [4, 5]) (.call "_law_made" s__law_made [.v 2]), .set 6 (.lst [.call ".nBadBatch" (newErrS "BadBatch") [], .call ".nBusy" (newErrS "Busy") [], .call ".nEmpty" (newErrS "Empty") [], .call ".nImpossible" (newErrS "Impossible") [], .call ".nNoHistory" (newErrS "NoHistory") [], .call ".nNoOrder" (newErrS "NoOrder") [], .call ".nNoPreference" (newErrS "NoPreference") [], .call ".nNoRule" (newErrS "NoRule") []]), .set 6 (.bin .add (.v 6) (.lst [.call ".nNothingToUndo" (newErrS "NothingToUndo") [], .call ".nOtherOrder" (newErrS "OtherOrder") [], .call ".nTooManyEdits" (newErrS "TooManyEdits") []])), .ift (.or [.cmp .ne (.bi .repr [.v 5]) (.bi .repr [.v 2]), .not (.call "_law_alone" s__law_alone [.v 6, .v 4])]) [.ret (.c (.bl false))] [], .ret (.cmp .eq (.bi .repr [.lst [.g "BATCH" d_BATCH, .g "HISTORY" d_HISTORY, .g "MAX_CARS" d_MAX_CARS, .g "MAX_LANES" d_MAX_LANES, .g "SMALL" d_SMALL]]) (.bi .repr [.lst [.c (.int 20), .c (.int 30), .c (.int 40), .c (.int 6), .c (.int 8)]]))]
structure Defs (K : PySem.W.Frag) (mg : Str → Option Value) : Prop where
  bt : ∀ x ∈ biNames, mg x = none
  d__law_roll : DefAt K mg "_law_roll" t__law_roll ["_law_can", "_law_many"]
  d__law_filled : DefAt K mg "_law_filled" t__law_filled ["_law_error"]
  d__law_plain : DefAt K mg "_law_plain" t__law_plain ["_law_error"]
  d__law_alone : DefAt K mg "_law_alone" t__law_alone ["_law_errors", "_law_others"]
  d__law_made : DefAt K mg "_law_made" t__law_made ["_law_values"]
  d__law_one : DefAt K mg "_law_one" t__law_one ["_law_can", "_law_items"]
  d__law_odd : DefAt K mg "_law_odd" t__law_odd ["_law_can"]
  d__law_opened : DefAt K mg "_law_opened" t__law_opened ["_law_script"]
  d_law : DefAt K mg "law" t_law ["_law_script"]
  g_BATCH : ∃ t, mg "BATCH" = some (.int 20 t)
  g_HISTORY : ∃ t, mg "HISTORY" = some (.int 30 t)
  g_MAX_CARS : ∃ t, mg "MAX_CARS" = some (.int 40 t)
  g_MAX_LANES : ∃ t, mg "MAX_LANES" = some (.int 6 t)
  g_SMALL : ∃ t, mg "SMALL" = some (.int 8 t)
  e_obj : ObjFacts K mg errL
  m_Absent : MkFacts K mg "Absent"
  m_BadBatch : MkFacts K mg "BadBatch"
  m_BadCount : MkFacts K mg "BadCount"
  m_BadDay : MkFacts K mg "BadDay"
  m_BadRow : MkFacts K mg "BadRow"
  m_BadRule : MkFacts K mg "BadRule"
  m_BadText : MkFacts K mg "BadText"
  m_BadWish : MkFacts K mg "BadWish"
  m_BadWord : MkFacts K mg "BadWord"
  m_Busy : MkFacts K mg "Busy"
  m_Empty : MkFacts K mg "Empty"
  m_Impossible : MkFacts K mg "Impossible"
  m_NoCar : MkFacts K mg "NoCar"
  m_NoCount : MkFacts K mg "NoCount"
  m_NoHistory : MkFacts K mg "NoHistory"
  m_NoIndex : MkFacts K mg "NoIndex"
  m_NoLane : MkFacts K mg "NoLane"
  m_NoOrder : MkFacts K mg "NoOrder"
  m_NoPair : MkFacts K mg "NoPair"
  m_NoPreference : MkFacts K mg "NoPreference"
  m_NoRule : MkFacts K mg "NoRule"
  m_NoVersion : MkFacts K mg "NoVersion"
  m_NothingToUndo : MkFacts K mg "NothingToUndo"
  m_OtherLanes : MkFacts K mg "OtherLanes"
  m_OtherOrder : MkFacts K mg "OtherOrder"
  m_PassedOver : MkFacts K mg "PassedOver"
  m_Rejected : MkFacts K mg "Rejected"
  m_TooLarge : MkFacts K mg "TooLarge"
  m_TooManyEdits : MkFacts K mg "TooManyEdits"
section
variable {P : Program} {w : World} {K : PySem.W.Frag} {mg : Str → Option Value} {base : Heap}
theorem k__law_roll (DF : Defs K mg) : Knows isCan P w K mg base 1 "_law_roll" s__law_roll := ok_roll DF.d__law_roll DF.bt
theorem n_of_BATCH (DF : Defs K mg) (C : Gho) : Names K mg C "BATCH" d_BATCH := let ⟨t, h⟩ := DF.g_BATCH; ⟨_, .int 20, h, ⟨t, rfl⟩, .int _⟩
theorem n_of_HISTORY (DF : Defs K mg) (C : Gho) : Names K mg C "HISTORY" d_HISTORY := let ⟨t, h⟩ := DF.g_HISTORY; ⟨_, .int 30, h, ⟨t, rfl⟩, .int _⟩
theorem n_of_MAX_CARS (DF : Defs K mg) (C : Gho) : Names K mg C "MAX_CARS" d_MAX_CARS := let ⟨t, h⟩ := DF.g_MAX_CARS; ⟨_, .int 40, h, ⟨t, rfl⟩, .int _⟩
theorem n_of_MAX_LANES (DF : Defs K mg) (C : Gho) : Names K mg C "MAX_LANES" d_MAX_LANES := let ⟨t, h⟩ := DF.g_MAX_LANES; ⟨_, .int 6, h, ⟨t, rfl⟩, .int _⟩
theorem n_of_SMALL (DF : Defs K mg) (C : Gho) : Names K mg C "SMALL" d_SMALL := let ⟨t, h⟩ := DF.g_SMALL; ⟨_, .int 8, h, ⟨t, rfl⟩, .int _⟩
theorem sc__law_filled : FnScope n__law_filled ["_law_error"] (defScope t__law_filled) := ⟨rfl, rfl, rfl, by decide +kernel, rfl, by decide +kernel, by decide +kernel⟩
theorem k__law_filled (DF : Defs K mg) : Knows isCan P w K mg base 1 "_law_filled" s__law_filled :=
  know_def (N := n__law_filled) DF.d__law_filled sc__law_filled (by decide +kernel) (by decide) DF.bt fun C _ _ => by
    simp only [b__law_filled, c1__law_filled, allSs, allS, allE, allEs, allO, allI, and_true, true_and, and_self, implies_true, forall_const] <;> (repeat' apply And.intro) <;> first | trivial | exact know_isa DF.e_obj rfl (by decide) (by decide +kernel)
theorem sc__law_plain : FnScope n__law_plain ["_law_error"] (defScope t__law_plain) := ⟨rfl, rfl, rfl, by decide +kernel, rfl, by decide +kernel, by decide +kernel⟩
theorem k__law_plain (DF : Defs K mg) : Knows isCan P w K mg base 1 "_law_plain" s__law_plain :=
  know_def (N := n__law_plain) DF.d__law_plain sc__law_plain (by decide +kernel) (by decide) DF.bt fun C _ _ => by
    simp only [b__law_plain, c1__law_plain, allSs, allS, allE, allEs, allO, allI, and_true, true_and, and_self, implies_true, forall_const] <;> (repeat' apply And.intro) <;> first | trivial | exact know_isa DF.e_obj rfl (by decide) (by decide +kernel)
theorem sc__law_alone : FnScope n__law_alone ["_law_errors", "_law_others"] (defScope t__law_alone) := ⟨rfl, rfl, rfl, by decide +kernel, rfl, by decide +kernel, by decide +kernel⟩
theorem k__law_alone (DF : Defs K mg) : Knows isCan P w K mg base 2 "_law_alone" s__law_alone :=
  know_def (N := n__law_alone) DF.d__law_alone sc__law_alone (by decide +kernel) (by decide) DF.bt fun C _ _ => by
    simp only [b__law_alone, c4__law_alone, c3__law_alone, l2__law_alone, l1__law_alone, allSs, allS, allE, allEs, allO, allI, and_true, true_and, and_self, implies_true, forall_const] <;> (repeat' apply And.intro) <;> first | trivial | exact (k__law_filled DF).mono (by decide) | exact (k__law_plain DF).mono (by decide) | exact know_isa DF.e_obj rfl (by decide) (by decide +kernel)
theorem sc__law_made : FnScope n__law_made ["_law_values"] (defScope t__law_made) := ⟨rfl, rfl, rfl, by decide +kernel, rfl, by decide +kernel, by decide +kernel⟩
theorem k__law_made (DF : Defs K mg) : Knows isCan P w K mg base 1 "_law_made" s__law_made :=
  know_def (N := n__law_made) DF.d__law_made sc__law_made (by decide +kernel) (by decide) DF.bt fun C _ _ => by
    simp only [b__law_made, allSs, allS, allE, allEs, allO, allI, and_true, true_and, and_self, implies_true, forall_const] <;> (repeat' apply And.intro) <;> first | trivial | exact know_fld DF.e_obj rfl | exact know_newErr DF.m_Absent (objK_of DF.e_obj (by decide +kernel)) rfl | exact know_newErr DF.m_BadCount (objK_of DF.e_obj (by decide +kernel)) rfl | exact know_newErr DF.m_BadDay (objK_of DF.e_obj (by decide +kernel)) rfl | exact know_newErr DF.m_BadRow (objK_of DF.e_obj (by decide +kernel)) rfl | exact know_newErr DF.m_BadRule (objK_of DF.e_obj (by decide +kernel)) rfl | exact know_newErr DF.m_BadText (objK_of DF.e_obj (by decide +kernel)) rfl | exact know_newErr DF.m_BadWish (objK_of DF.e_obj (by decide +kernel)) rfl | exact know_newErr DF.m_BadWord (objK_of DF.e_obj (by decide +kernel)) rfl | exact know_newErr DF.m_NoCar (objK_of DF.e_obj (by decide +kernel)) rfl | exact know_newErr DF.m_NoCount (objK_of DF.e_obj (by decide +kernel)) rfl | exact know_newErr DF.m_NoIndex (objK_of DF.e_obj (by decide +kernel)) rfl | exact know_newErr DF.m_NoLane (objK_of DF.e_obj (by decide +kernel)) rfl | exact know_newErr DF.m_NoPair (objK_of DF.e_obj (by decide +kernel)) rfl | exact know_newErr DF.m_NoVersion (objK_of DF.e_obj (by decide +kernel)) rfl | exact know_newErr DF.m_OtherLanes (objK_of DF.e_obj (by decide +kernel)) rfl | exact know_newErr DF.m_PassedOver (objK_of DF.e_obj (by decide +kernel)) rfl | exact know_newErr DF.m_Rejected (objK_of DF.e_obj (by decide +kernel)) rfl | exact know_newErr DF.m_TooLarge (objK_of DF.e_obj (by decide +kernel)) rfl
theorem sc__law_one : FnScope n__law_one ["_law_can", "_law_items"] (defScope t__law_one) := ⟨rfl, rfl, rfl, by decide +kernel, rfl, by decide +kernel, by decide +kernel⟩
theorem k__law_one (DF : Defs K mg) : Knows isCan P w K mg base 2 "_law_one" s__law_one :=
  know_def (N := n__law_one) DF.d__law_one sc__law_one (by decide +kernel) (by decide) DF.bt fun C _ _ => by
    simp only [b__law_one, allSs, allS, allE, allEs, allO, allI, and_true, true_and, and_self, implies_true, forall_const] <;> (repeat' apply And.intro) <;> first | trivial | exact (k__law_roll DF).mono (by decide)
theorem sc__law_odd : FnScope n__law_odd ["_law_can"] (defScope t__law_odd) := ⟨rfl, rfl, rfl, by decide +kernel, rfl, by decide +kernel, by decide +kernel⟩
theorem k__law_odd (DF : Defs K mg) : Knows isCan P w K mg base 3 "_law_odd" s__law_odd :=
  know_def (N := n__law_odd) DF.d__law_odd sc__law_odd (by decide +kernel) (by decide) DF.bt fun C _ _ => by
    simp only [b__law_odd, allSs, allS, allE, allEs, allO, allI, and_true, true_and, and_self, implies_true, forall_const] <;> (repeat' apply And.intro) <;> first | trivial | exact (k__law_one DF).mono (by decide)
theorem sc__law_opened : FnScope n__law_opened ["_law_script"] (defScope t__law_opened) := ⟨rfl, rfl, rfl, by decide +kernel, rfl, by decide +kernel, by decide +kernel⟩
theorem k__law_opened (DF : Defs K mg) : Knows isNo P w K mg base 1 "_law_opened" s__law_opened :=
  know_def (N := n__law_opened) DF.d__law_opened sc__law_opened (by decide +kernel) (by decide) DF.bt fun C _ _ => by
    simp only [b__law_opened, c2__law_opened, c1__law_opened, allSs, allS, allE, allEs, allO, allI, and_true, true_and, and_self, implies_true, forall_const] <;> (repeat' apply And.intro) <;> first | trivial
theorem sc_law : FnScope n_law ["_law_script"] (defScope t_law) := ⟨rfl, rfl, rfl, by decide +kernel, rfl, by decide +kernel, by decide +kernel⟩
theorem all_law (DF : Defs K mg) (C : Gho) : allSs (Knows isCan P w K mg base 3) (Names K mg C) b_law := by
  simp only [b_law, c1_law, allSs, allS, allE, allEs, allO, allI, and_true, true_and, and_self, implies_true, forall_const] <;> (repeat' apply And.intro) <;> first | trivial | exact n_of_BATCH DF C | exact n_of_HISTORY DF C | exact n_of_MAX_CARS DF C | exact n_of_MAX_LANES DF C | exact n_of_SMALL DF C | exact (k__law_alone DF).mono (by decide) | exact (k__law_made DF).mono (by decide) | exact (k__law_odd DF).mono (by decide) | exact know_newErr DF.m_BadBatch (objK_of DF.e_obj (by decide +kernel)) rfl | exact know_newErr DF.m_Busy (objK_of DF.e_obj (by decide +kernel)) rfl | exact know_newErr DF.m_Empty (objK_of DF.e_obj (by decide +kernel)) rfl | exact know_newErr DF.m_Impossible (objK_of DF.e_obj (by decide +kernel)) rfl | exact know_newErr DF.m_NoHistory (objK_of DF.e_obj (by decide +kernel)) rfl | exact know_newErr DF.m_NoOrder (objK_of DF.e_obj (by decide +kernel)) rfl | exact know_newErr DF.m_NoPreference (objK_of DF.e_obj (by decide +kernel)) rfl | exact know_newErr DF.m_NoRule (objK_of DF.e_obj (by decide +kernel)) rfl | exact know_newErr DF.m_NothingToUndo (objK_of DF.e_obj (by decide +kernel)) rfl | exact know_newErr DF.m_OtherOrder (objK_of DF.e_obj (by decide +kernel)) rfl | exact know_newErr DF.m_TooManyEdits (objK_of DF.e_obj (by decide +kernel)) rfl
theorem look_law : mS n_law (defScope t_law) (.set 1 (.call "_law_opened" s__law_opened [.v 0])) ((defBody t_law).headD (.Pass ⟨0, 0, 0, 0⟩)) = true := by decide +kernel
theorem look_rest : mSs n_law (defScope t_law) b_law ((defBody t_law).tail) = true := by decide +kernel
theorem ok_law {a : Addr} {fd : FuncData} (DF : Defs K mg) (F : Fun K "law" "law" t_law a fd) (conv : ∀ ns : List Int, ns.length ≤ 63 → ∃ d, s__law_opened [.scr ns] .non = .ok d .non ∧ ∀ (B H : Hp) (v : V), Same B H → Rep K (noG K).hv B v d →
      ∃ (C : Gho) (γ : D), isCan C ∧ C.K = K ∧ (∀ n, C.hv n ≠ .non) ∧ C.hv 0 = v ∧ C.rep γ H ∧ ∃ g', execs b_law (.un :: .val (.han 0) :: List.replicate 5 .un) γ = .rt (.bl true) g') : FnG P w K mg base 4 a fd ["_law_script"] (spLaw K 63) :=
  law_of F sc_law rfl look_law look_rest (by decide) sc_law.nd DF.bt (fun _ h => can_ne h) ((k__law_opened DF).mono (by decide)) (fun C _ _ => all_law DF C) conv
theorem all_mk {h : Heap} (KX : K.In h) (Gn : h.Ns mainGlobals mg)
    {od0 an0 : Option Addr} {sl0 : Array (Option Value)} {oc0 kV0 dc0 pm0 cd0 ct0 : Value} {f0 : Addr} (a0 : PySem.W.nsIn K mainGlobals "_law_roll" = some (some (.ref f0))) (l0 : K.lookup f0 = some ⟨oc0, od0, .func (PySem.W.fnOf "_law_roll" "_law_roll" (defArgs t__law_roll) (defBody t__law_roll) (defScope t__law_roll) .none kV0 dc0 pm0 an0 cd0 ct0), sl0⟩) (c0 : PySem.W.codeIn K cd0 "_law_roll" = true) (k0 : PySem.W.keepIn K (.ref f0) = true)
    {od1 an1 : Option Addr} {sl1 : Array (Option Value)} {oc1 kV1 dc1 pm1 cd1 ct1 : Value} {f1 : Addr} (a1 : PySem.W.nsIn K mainGlobals "_law_filled" = some (some (.ref f1))) (l1 : K.lookup f1 = some ⟨oc1, od1, .func (PySem.W.fnOf "_law_filled" "_law_filled" (defArgs t__law_filled) (defBody t__law_filled) (defScope t__law_filled) .none kV1 dc1 pm1 an1 cd1 ct1), sl1⟩) (c1 : PySem.W.codeIn K cd1 "_law_filled" = true) (k1 : PySem.W.keepIn K (.ref f1) = true)
    {od2 an2 : Option Addr} {sl2 : Array (Option Value)} {oc2 kV2 dc2 pm2 cd2 ct2 : Value} {f2 : Addr} (a2 : PySem.W.nsIn K mainGlobals "_law_plain" = some (some (.ref f2))) (l2 : K.lookup f2 = some ⟨oc2, od2, .func (PySem.W.fnOf "_law_plain" "_law_plain" (defArgs t__law_plain) (defBody t__law_plain) (defScope t__law_plain) .none kV2 dc2 pm2 an2 cd2 ct2), sl2⟩) (c2 : PySem.W.codeIn K cd2 "_law_plain" = true) (k2 : PySem.W.keepIn K (.ref f2) = true)
    {od3 an3 : Option Addr} {sl3 : Array (Option Value)} {oc3 kV3 dc3 pm3 cd3 ct3 : Value} {f3 : Addr} (a3 : PySem.W.nsIn K mainGlobals "_law_alone" = some (some (.ref f3))) (l3 : K.lookup f3 = some ⟨oc3, od3, .func (PySem.W.fnOf "_law_alone" "_law_alone" (defArgs t__law_alone) (defBody t__law_alone) (defScope t__law_alone) .none kV3 dc3 pm3 an3 cd3 ct3), sl3⟩) (c3 : PySem.W.codeIn K cd3 "_law_alone" = true) (k3 : PySem.W.keepIn K (.ref f3) = true)
    {od4 an4 : Option Addr} {sl4 : Array (Option Value)} {oc4 kV4 dc4 pm4 cd4 ct4 : Value} {f4 : Addr} (a4 : PySem.W.nsIn K mainGlobals "_law_made" = some (some (.ref f4))) (l4 : K.lookup f4 = some ⟨oc4, od4, .func (PySem.W.fnOf "_law_made" "_law_made" (defArgs t__law_made) (defBody t__law_made) (defScope t__law_made) .none kV4 dc4 pm4 an4 cd4 ct4), sl4⟩) (c4 : PySem.W.codeIn K cd4 "_law_made" = true) (k4 : PySem.W.keepIn K (.ref f4) = true)
    {od5 an5 : Option Addr} {sl5 : Array (Option Value)} {oc5 kV5 dc5 pm5 cd5 ct5 : Value} {f5 : Addr} (a5 : PySem.W.nsIn K mainGlobals "_law_one" = some (some (.ref f5))) (l5 : K.lookup f5 = some ⟨oc5, od5, .func (PySem.W.fnOf "_law_one" "_law_one" (defArgs t__law_one) (defBody t__law_one) (defScope t__law_one) .none kV5 dc5 pm5 an5 cd5 ct5), sl5⟩) (c5 : PySem.W.codeIn K cd5 "_law_one" = true) (k5 : PySem.W.keepIn K (.ref f5) = true)
    {od6 an6 : Option Addr} {sl6 : Array (Option Value)} {oc6 kV6 dc6 pm6 cd6 ct6 : Value} {f6 : Addr} (a6 : PySem.W.nsIn K mainGlobals "_law_odd" = some (some (.ref f6))) (l6 : K.lookup f6 = some ⟨oc6, od6, .func (PySem.W.fnOf "_law_odd" "_law_odd" (defArgs t__law_odd) (defBody t__law_odd) (defScope t__law_odd) .none kV6 dc6 pm6 an6 cd6 ct6), sl6⟩) (c6 : PySem.W.codeIn K cd6 "_law_odd" = true) (k6 : PySem.W.keepIn K (.ref f6) = true)
    {od7 an7 : Option Addr} {sl7 : Array (Option Value)} {oc7 kV7 dc7 pm7 cd7 ct7 : Value} {f7 : Addr} (a7 : PySem.W.nsIn K mainGlobals "_law_opened" = some (some (.ref f7))) (l7 : K.lookup f7 = some ⟨oc7, od7, .func (PySem.W.fnOf "_law_opened" "_law_opened" (defArgs t__law_opened) (defBody t__law_opened) (defScope t__law_opened) .none kV7 dc7 pm7 an7 cd7 ct7), sl7⟩) (c7 : PySem.W.codeIn K cd7 "_law_opened" = true) (k7 : PySem.W.keepIn K (.ref f7) = true)
    {od8 an8 : Option Addr} {sl8 : Array (Option Value)} {oc8 kV8 dc8 pm8 cd8 ct8 : Value} {f8 : Addr} (a8 : PySem.W.nsIn K mainGlobals "law" = some (some (.ref f8))) (l8 : K.lookup f8 = some ⟨oc8, od8, .func (PySem.W.fnOf "law" "law" (defArgs t_law) (defBody t_law) (defScope t_law) .none kV8 dc8 pm8 an8 cd8 ct8), sl8⟩) (c8 : PySem.W.codeIn K cd8 "law" = true) (k8 : PySem.W.keepIn K (.ref f8) = true)
    {xP : Addr} (hP : PySem.W.nsIn K mainGlobals "PassError" = some (some (.ref xP))) (eT : errsB K errL = true)
    {eC0 ef0 eN0 : Addr} {enm0 eq0 : Str} {ebs0 : List Value} {esn0 : List Str} {esub0 ebm0 : List Value} {eab0 : Bool} {ecol0 : Option Bool} {edd0 : Option Addr} {em00 em10 em20 em30 em50 : Option Value} {eod0 ean0 : Option Addr} {esl0 : Array (Option Value)} {eoc0 edc0 epm0 ecd0 ect0 : Value} {ep10 ep20 eq10 eq20 eq30 eq40 : Pos} (ea0 : PySem.W.nsIn K mainGlobals "Absent" = some (some (.ref eC0))) (ex0 : K.lookup eC0 = some (excClassObj enm0 eq0 eC0 eN0 ebs0 ebm0 true esn0 esub0 eab0 ecol0 edd0 em00 em10 em20 em30 em50 "ValueError.__new__")) (eb0 : PySem.HandSPX.refsVE ebm0 = true) (es0 : PySem.W.findIn K (.ref eC0) "__setattr__" = some (some (.builtin "object.__setattr__"))) (eg0 : PySem.W.findIn K (.ref eC0) "__getattribute__" = some (some (.builtin "BaseException.__getattribute__"))) (eh0 : PySem.W.findIn K (.ref eC0) "__getattr__" = some none) (en0 : PySem.W.findIn K (.ref eC0) "car" = some none) (ei0 : PySem.W.findIn K (.ref eC0) "__init__" = some (some (.ref ef0))) (ej0 : PySem.W.typeIn K (.ref ef0) = some (.type "function")) (el0 : K.lookup ef0 = some ⟨eoc0, eod0, .func (PySem.W.fnOf "__init__" "Absent.__init__" (PySem.ErrX.iA "car" ep10 ep20) (PySem.ErrX.iB "car" eq10 eq20 eq30 eq40) (PySem.ErrX.iS "car") .none .none edc0 epm0 ean0 ecd0 ect0), esl0⟩) (ec0 : PySem.W.codeIn K ecd0 "Absent.__init__" = true) (ek0 : PySem.W.keepIn K (.ref eC0) = true) (ee0 : PySem.W.subIn K (.ref eC0) (.type "BaseException") = some true) (et0 : PySem.W.typeIn K (.ref eC0) = some (.type "type")) (ey0 : PySem.W.hasDictIn K eC0 = true)
    {eC1 : Addr} (ea1 : PySem.W.nsIn K mainGlobals "BadBatch" = some (some (.ref eC1))) (ex1 : PySem.W.excIn K eC1 [.type "ValueError", .type "Exception", .type "BaseException", .type "object"] "ValueError.__new__" = true) (ek1 : PySem.W.keepIn K (.ref eC1) = true) (ee1 : PySem.W.subIn K (.ref eC1) (.type "BaseException") = some true) (et1 : PySem.W.typeIn K (.ref eC1) = some (.type "type"))
    {eC2 ef2 eN2 : Addr} {enm2 eq2 : Str} {ebs2 : List Value} {esn2 : List Str} {esub2 ebm2 : List Value} {eab2 : Bool} {ecol2 : Option Bool} {edd2 : Option Addr} {em02 em12 em22 em32 em52 : Option Value} {eod2 ean2 : Option Addr} {esl2 : Array (Option Value)} {eoc2 edc2 epm2 ecd2 ect2 : Value} {ep12 ep22 eq12 eq22 eq32 eq42 : Pos} (ea2 : PySem.W.nsIn K mainGlobals "BadCount" = some (some (.ref eC2))) (ex2 : K.lookup eC2 = some (excClassObj enm2 eq2 eC2 eN2 ebs2 ebm2 true esn2 esub2 eab2 ecol2 edd2 em02 em12 em22 em32 em52 "ValueError.__new__")) (eb2 : PySem.HandSPX.refsVE ebm2 = true) (es2 : PySem.W.findIn K (.ref eC2) "__setattr__" = some (some (.builtin "object.__setattr__"))) (eg2 : PySem.W.findIn K (.ref eC2) "__getattribute__" = some (some (.builtin "BaseException.__getattribute__"))) (eh2 : PySem.W.findIn K (.ref eC2) "__getattr__" = some none) (en2 : PySem.W.findIn K (.ref eC2) "index" = some none) (ei2 : PySem.W.findIn K (.ref eC2) "__init__" = some (some (.ref ef2))) (ej2 : PySem.W.typeIn K (.ref ef2) = some (.type "function")) (el2 : K.lookup ef2 = some ⟨eoc2, eod2, .func (PySem.W.fnOf "__init__" "BadCount.__init__" (PySem.ErrX.iA "index" ep12 ep22) (PySem.ErrX.iB "index" eq12 eq22 eq32 eq42) (PySem.ErrX.iS "index") .none .none edc2 epm2 ean2 ecd2 ect2), esl2⟩) (ec2 : PySem.W.codeIn K ecd2 "BadCount.__init__" = true) (ek2 : PySem.W.keepIn K (.ref eC2) = true) (ee2 : PySem.W.subIn K (.ref eC2) (.type "BaseException") = some true) (et2 : PySem.W.typeIn K (.ref eC2) = some (.type "type")) (ey2 : PySem.W.hasDictIn K eC2 = true)
    {eC3 ef3 eN3 : Addr} {enm3 eq3 : Str} {ebs3 : List Value} {esn3 : List Str} {esub3 ebm3 : List Value} {eab3 : Bool} {ecol3 : Option Bool} {edd3 : Option Addr} {em03 em13 em23 em33 em53 : Option Value} {eod3 ean3 : Option Addr} {esl3 : Array (Option Value)} {eoc3 edc3 epm3 ecd3 ect3 : Value} {ep13 ep23 eq13 eq23 eq33 eq43 : Pos} (ea3 : PySem.W.nsIn K mainGlobals "BadDay" = some (some (.ref eC3))) (ex3 : K.lookup eC3 = some (excClassObj enm3 eq3 eC3 eN3 ebs3 ebm3 true esn3 esub3 eab3 ecol3 edd3 em03 em13 em23 em33 em53 "ValueError.__new__")) (eb3 : PySem.HandSPX.refsVE ebm3 = true) (es3 : PySem.W.findIn K (.ref eC3) "__setattr__" = some (some (.builtin "object.__setattr__"))) (eg3 : PySem.W.findIn K (.ref eC3) "__getattribute__" = some (some (.builtin "BaseException.__getattribute__"))) (eh3 : PySem.W.findIn K (.ref eC3) "__getattr__" = some none) (en3 : PySem.W.findIn K (.ref eC3) "index" = some none) (ei3 : PySem.W.findIn K (.ref eC3) "__init__" = some (some (.ref ef3))) (ej3 : PySem.W.typeIn K (.ref ef3) = some (.type "function")) (el3 : K.lookup ef3 = some ⟨eoc3, eod3, .func (PySem.W.fnOf "__init__" "BadDay.__init__" (PySem.ErrX.iA "index" ep13 ep23) (PySem.ErrX.iB "index" eq13 eq23 eq33 eq43) (PySem.ErrX.iS "index") .none .none edc3 epm3 ean3 ecd3 ect3), esl3⟩) (ec3 : PySem.W.codeIn K ecd3 "BadDay.__init__" = true) (ek3 : PySem.W.keepIn K (.ref eC3) = true) (ee3 : PySem.W.subIn K (.ref eC3) (.type "BaseException") = some true) (et3 : PySem.W.typeIn K (.ref eC3) = some (.type "type")) (ey3 : PySem.W.hasDictIn K eC3 = true)
    {eC4 ef4 eN4 : Addr} {enm4 eq4 : Str} {ebs4 : List Value} {esn4 : List Str} {esub4 ebm4 : List Value} {eab4 : Bool} {ecol4 : Option Bool} {edd4 : Option Addr} {em04 em14 em24 em34 em54 : Option Value} {eod4 ean4 : Option Addr} {esl4 : Array (Option Value)} {eoc4 edc4 epm4 ecd4 ect4 : Value} {ep14 ep24 eq14 eq24 eq34 eq44 : Pos} (ea4 : PySem.W.nsIn K mainGlobals "BadRow" = some (some (.ref eC4))) (ex4 : K.lookup eC4 = some (excClassObj enm4 eq4 eC4 eN4 ebs4 ebm4 true esn4 esub4 eab4 ecol4 edd4 em04 em14 em24 em34 em54 "ValueError.__new__")) (eb4 : PySem.HandSPX.refsVE ebm4 = true) (es4 : PySem.W.findIn K (.ref eC4) "__setattr__" = some (some (.builtin "object.__setattr__"))) (eg4 : PySem.W.findIn K (.ref eC4) "__getattribute__" = some (some (.builtin "BaseException.__getattribute__"))) (eh4 : PySem.W.findIn K (.ref eC4) "__getattr__" = some none) (en4 : PySem.W.findIn K (.ref eC4) "error" = some none) (ei4 : PySem.W.findIn K (.ref eC4) "__init__" = some (some (.ref ef4))) (ej4 : PySem.W.typeIn K (.ref ef4) = some (.type "function")) (el4 : K.lookup ef4 = some ⟨eoc4, eod4, .func (PySem.W.fnOf "__init__" "BadRow.__init__" (PySem.ErrX.iA "error" ep14 ep24) (PySem.ErrX.iB "error" eq14 eq24 eq34 eq44) (PySem.ErrX.iS "error") .none .none edc4 epm4 ean4 ecd4 ect4), esl4⟩) (ec4 : PySem.W.codeIn K ecd4 "BadRow.__init__" = true) (ek4 : PySem.W.keepIn K (.ref eC4) = true) (ee4 : PySem.W.subIn K (.ref eC4) (.type "BaseException") = some true) (et4 : PySem.W.typeIn K (.ref eC4) = some (.type "type")) (ey4 : PySem.W.hasDictIn K eC4 = true)
    {eC5 ef5 eN5 : Addr} {enm5 eq5 : Str} {ebs5 : List Value} {esn5 : List Str} {esub5 ebm5 : List Value} {eab5 : Bool} {ecol5 : Option Bool} {edd5 : Option Addr} {em05 em15 em25 em35 em55 : Option Value} {eod5 ean5 : Option Addr} {esl5 : Array (Option Value)} {eoc5 edc5 epm5 ecd5 ect5 : Value} {ep15 ep25 eq15 eq25 eq35 eq45 : Pos} (ea5 : PySem.W.nsIn K mainGlobals "BadRule" = some (some (.ref eC5))) (ex5 : K.lookup eC5 = some (excClassObj enm5 eq5 eC5 eN5 ebs5 ebm5 true esn5 esub5 eab5 ecol5 edd5 em05 em15 em25 em35 em55 "ValueError.__new__")) (eb5 : PySem.HandSPX.refsVE ebm5 = true) (es5 : PySem.W.findIn K (.ref eC5) "__setattr__" = some (some (.builtin "object.__setattr__"))) (eg5 : PySem.W.findIn K (.ref eC5) "__getattribute__" = some (some (.builtin "BaseException.__getattribute__"))) (eh5 : PySem.W.findIn K (.ref eC5) "__getattr__" = some none) (en5 : PySem.W.findIn K (.ref eC5) "error" = some none) (ei5 : PySem.W.findIn K (.ref eC5) "__init__" = some (some (.ref ef5))) (ej5 : PySem.W.typeIn K (.ref ef5) = some (.type "function")) (el5 : K.lookup ef5 = some ⟨eoc5, eod5, .func (PySem.W.fnOf "__init__" "BadRule.__init__" (PySem.ErrX.iA "error" ep15 ep25) (PySem.ErrX.iB "error" eq15 eq25 eq35 eq45) (PySem.ErrX.iS "error") .none .none edc5 epm5 ean5 ecd5 ect5), esl5⟩) (ec5 : PySem.W.codeIn K ecd5 "BadRule.__init__" = true) (ek5 : PySem.W.keepIn K (.ref eC5) = true) (ee5 : PySem.W.subIn K (.ref eC5) (.type "BaseException") = some true) (et5 : PySem.W.typeIn K (.ref eC5) = some (.type "type")) (ey5 : PySem.W.hasDictIn K eC5 = true)
    {eC6 ef6 eN6 : Addr} {enm6 eq6 : Str} {ebs6 : List Value} {esn6 : List Str} {esub6 ebm6 : List Value} {eab6 : Bool} {ecol6 : Option Bool} {edd6 : Option Addr} {em06 em16 em26 em36 em56 : Option Value} {eod6 ean6 : Option Addr} {esl6 : Array (Option Value)} {eoc6 edc6 epm6 ecd6 ect6 : Value} {ep16 ep26 eq16 eq26 eq36 eq46 : Pos} (ea6 : PySem.W.nsIn K mainGlobals "BadText" = some (some (.ref eC6))) (ex6 : K.lookup eC6 = some (excClassObj enm6 eq6 eC6 eN6 ebs6 ebm6 true esn6 esub6 eab6 ecol6 edd6 em06 em16 em26 em36 em56 "ValueError.__new__")) (eb6 : PySem.HandSPX.refsVE ebm6 = true) (es6 : PySem.W.findIn K (.ref eC6) "__setattr__" = some (some (.builtin "object.__setattr__"))) (eg6 : PySem.W.findIn K (.ref eC6) "__getattribute__" = some (some (.builtin "BaseException.__getattribute__"))) (eh6 : PySem.W.findIn K (.ref eC6) "__getattr__" = some none) (en6 : PySem.W.findIn K (.ref eC6) "index" = some none) (ei6 : PySem.W.findIn K (.ref eC6) "__init__" = some (some (.ref ef6))) (ej6 : PySem.W.typeIn K (.ref ef6) = some (.type "function")) (el6 : K.lookup ef6 = some ⟨eoc6, eod6, .func (PySem.W.fnOf "__init__" "BadText.__init__" (PySem.ErrX.iA "index" ep16 ep26) (PySem.ErrX.iB "index" eq16 eq26 eq36 eq46) (PySem.ErrX.iS "index") .none .none edc6 epm6 ean6 ecd6 ect6), esl6⟩) (ec6 : PySem.W.codeIn K ecd6 "BadText.__init__" = true) (ek6 : PySem.W.keepIn K (.ref eC6) = true) (ee6 : PySem.W.subIn K (.ref eC6) (.type "BaseException") = some true) (et6 : PySem.W.typeIn K (.ref eC6) = some (.type "type")) (ey6 : PySem.W.hasDictIn K eC6 = true)
    {eC7 ef7 eN7 : Addr} {enm7 eq7 : Str} {ebs7 : List Value} {esn7 : List Str} {esub7 ebm7 : List Value} {eab7 : Bool} {ecol7 : Option Bool} {edd7 : Option Addr} {em07 em17 em27 em37 em57 : Option Value} {eod7 ean7 : Option Addr} {esl7 : Array (Option Value)} {eoc7 edc7 epm7 ecd7 ect7 : Value} {ep17 ep27 eq17 eq27 eq37 eq47 : Pos} (ea7 : PySem.W.nsIn K mainGlobals "BadWish" = some (some (.ref eC7))) (ex7 : K.lookup eC7 = some (excClassObj enm7 eq7 eC7 eN7 ebs7 ebm7 true esn7 esub7 eab7 ecol7 edd7 em07 em17 em27 em37 em57 "ValueError.__new__")) (eb7 : PySem.HandSPX.refsVE ebm7 = true) (es7 : PySem.W.findIn K (.ref eC7) "__setattr__" = some (some (.builtin "object.__setattr__"))) (eg7 : PySem.W.findIn K (.ref eC7) "__getattribute__" = some (some (.builtin "BaseException.__getattribute__"))) (eh7 : PySem.W.findIn K (.ref eC7) "__getattr__" = some none) (en7 : PySem.W.findIn K (.ref eC7) "index" = some none) (ei7 : PySem.W.findIn K (.ref eC7) "__init__" = some (some (.ref ef7))) (ej7 : PySem.W.typeIn K (.ref ef7) = some (.type "function")) (el7 : K.lookup ef7 = some ⟨eoc7, eod7, .func (PySem.W.fnOf "__init__" "BadWish.__init__" (PySem.ErrX.iA "index" ep17 ep27) (PySem.ErrX.iB "index" eq17 eq27 eq37 eq47) (PySem.ErrX.iS "index") .none .none edc7 epm7 ean7 ecd7 ect7), esl7⟩) (ec7 : PySem.W.codeIn K ecd7 "BadWish.__init__" = true) (ek7 : PySem.W.keepIn K (.ref eC7) = true) (ee7 : PySem.W.subIn K (.ref eC7) (.type "BaseException") = some true) (et7 : PySem.W.typeIn K (.ref eC7) = some (.type "type")) (ey7 : PySem.W.hasDictIn K eC7 = true)
    {eC8 ef8 eN8 : Addr} {enm8 eq8 : Str} {ebs8 : List Value} {esn8 : List Str} {esub8 ebm8 : List Value} {eab8 : Bool} {ecol8 : Option Bool} {edd8 : Option Addr} {em08 em18 em28 em38 em58 : Option Value} {eod8 ean8 : Option Addr} {esl8 : Array (Option Value)} {eoc8 edc8 epm8 ecd8 ect8 : Value} {ep18 ep28 eq18 eq28 eq38 eq48 : Pos} (ea8 : PySem.W.nsIn K mainGlobals "BadWord" = some (some (.ref eC8))) (ex8 : K.lookup eC8 = some (excClassObj enm8 eq8 eC8 eN8 ebs8 ebm8 true esn8 esub8 eab8 ecol8 edd8 em08 em18 em28 em38 em58 "ValueError.__new__")) (eb8 : PySem.HandSPX.refsVE ebm8 = true) (es8 : PySem.W.findIn K (.ref eC8) "__setattr__" = some (some (.builtin "object.__setattr__"))) (eg8 : PySem.W.findIn K (.ref eC8) "__getattribute__" = some (some (.builtin "BaseException.__getattribute__"))) (eh8 : PySem.W.findIn K (.ref eC8) "__getattr__" = some none) (en8 : PySem.W.findIn K (.ref eC8) "error" = some none) (ei8 : PySem.W.findIn K (.ref eC8) "__init__" = some (some (.ref ef8))) (ej8 : PySem.W.typeIn K (.ref ef8) = some (.type "function")) (el8 : K.lookup ef8 = some ⟨eoc8, eod8, .func (PySem.W.fnOf "__init__" "BadWord.__init__" (PySem.ErrX.iA "error" ep18 ep28) (PySem.ErrX.iB "error" eq18 eq28 eq38 eq48) (PySem.ErrX.iS "error") .none .none edc8 epm8 ean8 ecd8 ect8), esl8⟩) (ec8 : PySem.W.codeIn K ecd8 "BadWord.__init__" = true) (ek8 : PySem.W.keepIn K (.ref eC8) = true) (ee8 : PySem.W.subIn K (.ref eC8) (.type "BaseException") = some true) (et8 : PySem.W.typeIn K (.ref eC8) = some (.type "type")) (ey8 : PySem.W.hasDictIn K eC8 = true)
    {eC9 : Addr} (ea9 : PySem.W.nsIn K mainGlobals "Busy" = some (some (.ref eC9))) (ex9 : PySem.W.excIn K eC9 [.type "ValueError", .type "Exception", .type "BaseException", .type "object"] "ValueError.__new__" = true) (ek9 : PySem.W.keepIn K (.ref eC9) = true) (ee9 : PySem.W.subIn K (.ref eC9) (.type "BaseException") = some true) (et9 : PySem.W.typeIn K (.ref eC9) = some (.type "type"))
    {eC10 : Addr} (ea10 : PySem.W.nsIn K mainGlobals "Empty" = some (some (.ref eC10))) (ex10 : PySem.W.excIn K eC10 [.type "ValueError", .type "Exception", .type "BaseException", .type "object"] "ValueError.__new__" = true) (ek10 : PySem.W.keepIn K (.ref eC10) = true) (ee10 : PySem.W.subIn K (.ref eC10) (.type "BaseException") = some true) (et10 : PySem.W.typeIn K (.ref eC10) = some (.type "type"))
    {eC11 : Addr} (ea11 : PySem.W.nsIn K mainGlobals "Impossible" = some (some (.ref eC11))) (ex11 : PySem.W.excIn K eC11 [.type "ValueError", .type "Exception", .type "BaseException", .type "object"] "ValueError.__new__" = true) (ek11 : PySem.W.keepIn K (.ref eC11) = true) (ee11 : PySem.W.subIn K (.ref eC11) (.type "BaseException") = some true) (et11 : PySem.W.typeIn K (.ref eC11) = some (.type "type"))
    {eC12 ef12 eN12 : Addr} {enm12 eq12 : Str} {ebs12 : List Value} {esn12 : List Str} {esub12 ebm12 : List Value} {eab12 : Bool} {ecol12 : Option Bool} {edd12 : Option Addr} {em012 em112 em212 em312 em512 : Option Value} {eod12 ean12 : Option Addr} {esl12 : Array (Option Value)} {eoc12 edc12 epm12 ecd12 ect12 : Value} {ep112 ep212 eq112 eq212 eq312 eq412 : Pos} (ea12 : PySem.W.nsIn K mainGlobals "NoCar" = some (some (.ref eC12))) (ex12 : K.lookup eC12 = some (excClassObj enm12 eq12 eC12 eN12 ebs12 ebm12 true esn12 esub12 eab12 ecol12 edd12 em012 em112 em212 em312 em512 "ValueError.__new__")) (eb12 : PySem.HandSPX.refsVE ebm12 = true) (es12 : PySem.W.findIn K (.ref eC12) "__setattr__" = some (some (.builtin "object.__setattr__"))) (eg12 : PySem.W.findIn K (.ref eC12) "__getattribute__" = some (some (.builtin "BaseException.__getattribute__"))) (eh12 : PySem.W.findIn K (.ref eC12) "__getattr__" = some none) (en12 : PySem.W.findIn K (.ref eC12) "value" = some none) (ei12 : PySem.W.findIn K (.ref eC12) "__init__" = some (some (.ref ef12))) (ej12 : PySem.W.typeIn K (.ref ef12) = some (.type "function")) (el12 : K.lookup ef12 = some ⟨eoc12, eod12, .func (PySem.W.fnOf "__init__" "NoCar.__init__" (PySem.ErrX.iA "value" ep112 ep212) (PySem.ErrX.iB "value" eq112 eq212 eq312 eq412) (PySem.ErrX.iS "value") .none .none edc12 epm12 ean12 ecd12 ect12), esl12⟩) (ec12 : PySem.W.codeIn K ecd12 "NoCar.__init__" = true) (ek12 : PySem.W.keepIn K (.ref eC12) = true) (ee12 : PySem.W.subIn K (.ref eC12) (.type "BaseException") = some true) (et12 : PySem.W.typeIn K (.ref eC12) = some (.type "type")) (ey12 : PySem.W.hasDictIn K eC12 = true)
    {eC13 ef13 eN13 : Addr} {enm13 eq13 : Str} {ebs13 : List Value} {esn13 : List Str} {esub13 ebm13 : List Value} {eab13 : Bool} {ecol13 : Option Bool} {edd13 : Option Addr} {em013 em113 em213 em313 em513 : Option Value} {eod13 ean13 : Option Addr} {esl13 : Array (Option Value)} {eoc13 edc13 epm13 ecd13 ect13 : Value} {ep113 ep213 eq113 eq213 eq313 eq413 : Pos} (ea13 : PySem.W.nsIn K mainGlobals "NoCount" = some (some (.ref eC13))) (ex13 : K.lookup eC13 = some (excClassObj enm13 eq13 eC13 eN13 ebs13 ebm13 true esn13 esub13 eab13 ecol13 edd13 em013 em113 em213 em313 em513 "ValueError.__new__")) (eb13 : PySem.HandSPX.refsVE ebm13 = true) (es13 : PySem.W.findIn K (.ref eC13) "__setattr__" = some (some (.builtin "object.__setattr__"))) (eg13 : PySem.W.findIn K (.ref eC13) "__getattribute__" = some (some (.builtin "BaseException.__getattribute__"))) (eh13 : PySem.W.findIn K (.ref eC13) "__getattr__" = some none) (en13 : PySem.W.findIn K (.ref eC13) "value" = some none) (ei13 : PySem.W.findIn K (.ref eC13) "__init__" = some (some (.ref ef13))) (ej13 : PySem.W.typeIn K (.ref ef13) = some (.type "function")) (el13 : K.lookup ef13 = some ⟨eoc13, eod13, .func (PySem.W.fnOf "__init__" "NoCount.__init__" (PySem.ErrX.iA "value" ep113 ep213) (PySem.ErrX.iB "value" eq113 eq213 eq313 eq413) (PySem.ErrX.iS "value") .none .none edc13 epm13 ean13 ecd13 ect13), esl13⟩) (ec13 : PySem.W.codeIn K ecd13 "NoCount.__init__" = true) (ek13 : PySem.W.keepIn K (.ref eC13) = true) (ee13 : PySem.W.subIn K (.ref eC13) (.type "BaseException") = some true) (et13 : PySem.W.typeIn K (.ref eC13) = some (.type "type")) (ey13 : PySem.W.hasDictIn K eC13 = true)
    {eC14 : Addr} (ea14 : PySem.W.nsIn K mainGlobals "NoHistory" = some (some (.ref eC14))) (ex14 : PySem.W.excIn K eC14 [.type "ValueError", .type "Exception", .type "BaseException", .type "object"] "ValueError.__new__" = true) (ek14 : PySem.W.keepIn K (.ref eC14) = true) (ee14 : PySem.W.subIn K (.ref eC14) (.type "BaseException") = some true) (et14 : PySem.W.typeIn K (.ref eC14) = some (.type "type"))
    {eC15 ef15 eN15 : Addr} {enm15 eq15 : Str} {ebs15 : List Value} {esn15 : List Str} {esub15 ebm15 : List Value} {eab15 : Bool} {ecol15 : Option Bool} {edd15 : Option Addr} {em015 em115 em215 em315 em515 : Option Value} {eod15 ean15 : Option Addr} {esl15 : Array (Option Value)} {eoc15 edc15 epm15 ecd15 ect15 : Value} {ep115 ep215 eq115 eq215 eq315 eq415 : Pos} (ea15 : PySem.W.nsIn K mainGlobals "NoIndex" = some (some (.ref eC15))) (ex15 : K.lookup eC15 = some (excClassObj enm15 eq15 eC15 eN15 ebs15 ebm15 true esn15 esub15 eab15 ecol15 edd15 em015 em115 em215 em315 em515 "ValueError.__new__")) (eb15 : PySem.HandSPX.refsVE ebm15 = true) (es15 : PySem.W.findIn K (.ref eC15) "__setattr__" = some (some (.builtin "object.__setattr__"))) (eg15 : PySem.W.findIn K (.ref eC15) "__getattribute__" = some (some (.builtin "BaseException.__getattribute__"))) (eh15 : PySem.W.findIn K (.ref eC15) "__getattr__" = some none) (en15 : PySem.W.findIn K (.ref eC15) "index" = some none) (ei15 : PySem.W.findIn K (.ref eC15) "__init__" = some (some (.ref ef15))) (ej15 : PySem.W.typeIn K (.ref ef15) = some (.type "function")) (el15 : K.lookup ef15 = some ⟨eoc15, eod15, .func (PySem.W.fnOf "__init__" "NoIndex.__init__" (PySem.ErrX.iA "index" ep115 ep215) (PySem.ErrX.iB "index" eq115 eq215 eq315 eq415) (PySem.ErrX.iS "index") .none .none edc15 epm15 ean15 ecd15 ect15), esl15⟩) (ec15 : PySem.W.codeIn K ecd15 "NoIndex.__init__" = true) (ek15 : PySem.W.keepIn K (.ref eC15) = true) (ee15 : PySem.W.subIn K (.ref eC15) (.type "BaseException") = some true) (et15 : PySem.W.typeIn K (.ref eC15) = some (.type "type")) (ey15 : PySem.W.hasDictIn K eC15 = true)
    {eC16 ef16 eN16 : Addr} {enm16 eq16 : Str} {ebs16 : List Value} {esn16 : List Str} {esub16 ebm16 : List Value} {eab16 : Bool} {ecol16 : Option Bool} {edd16 : Option Addr} {em016 em116 em216 em316 em516 : Option Value} {eod16 ean16 : Option Addr} {esl16 : Array (Option Value)} {eoc16 edc16 epm16 ecd16 ect16 : Value} {ep116 ep216 eq116 eq216 eq316 eq416 : Pos} (ea16 : PySem.W.nsIn K mainGlobals "NoLane" = some (some (.ref eC16))) (ex16 : K.lookup eC16 = some (excClassObj enm16 eq16 eC16 eN16 ebs16 ebm16 true esn16 esub16 eab16 ecol16 edd16 em016 em116 em216 em316 em516 "ValueError.__new__")) (eb16 : PySem.HandSPX.refsVE ebm16 = true) (es16 : PySem.W.findIn K (.ref eC16) "__setattr__" = some (some (.builtin "object.__setattr__"))) (eg16 : PySem.W.findIn K (.ref eC16) "__getattribute__" = some (some (.builtin "BaseException.__getattribute__"))) (eh16 : PySem.W.findIn K (.ref eC16) "__getattr__" = some none) (en16 : PySem.W.findIn K (.ref eC16) "value" = some none) (ei16 : PySem.W.findIn K (.ref eC16) "__init__" = some (some (.ref ef16))) (ej16 : PySem.W.typeIn K (.ref ef16) = some (.type "function")) (el16 : K.lookup ef16 = some ⟨eoc16, eod16, .func (PySem.W.fnOf "__init__" "NoLane.__init__" (PySem.ErrX.iA "value" ep116 ep216) (PySem.ErrX.iB "value" eq116 eq216 eq316 eq416) (PySem.ErrX.iS "value") .none .none edc16 epm16 ean16 ecd16 ect16), esl16⟩) (ec16 : PySem.W.codeIn K ecd16 "NoLane.__init__" = true) (ek16 : PySem.W.keepIn K (.ref eC16) = true) (ee16 : PySem.W.subIn K (.ref eC16) (.type "BaseException") = some true) (et16 : PySem.W.typeIn K (.ref eC16) = some (.type "type")) (ey16 : PySem.W.hasDictIn K eC16 = true)
    {eC17 : Addr} (ea17 : PySem.W.nsIn K mainGlobals "NoOrder" = some (some (.ref eC17))) (ex17 : PySem.W.excIn K eC17 [.type "ValueError", .type "Exception", .type "BaseException", .type "object"] "ValueError.__new__" = true) (ek17 : PySem.W.keepIn K (.ref eC17) = true) (ee17 : PySem.W.subIn K (.ref eC17) (.type "BaseException") = some true) (et17 : PySem.W.typeIn K (.ref eC17) = some (.type "type"))
    {eC18 ef18 eN18 : Addr} {enm18 eq18 : Str} {ebs18 : List Value} {esn18 : List Str} {esub18 ebm18 : List Value} {eab18 : Bool} {ecol18 : Option Bool} {edd18 : Option Addr} {em018 em118 em218 em318 em518 : Option Value} {eod18 ean18 : Option Addr} {esl18 : Array (Option Value)} {eoc18 edc18 epm18 ecd18 ect18 : Value} {ep118 ep218 eq118 eq218 eq318 eq418 : Pos} (ea18 : PySem.W.nsIn K mainGlobals "NoPair" = some (some (.ref eC18))) (ex18 : K.lookup eC18 = some (excClassObj enm18 eq18 eC18 eN18 ebs18 ebm18 true esn18 esub18 eab18 ecol18 edd18 em018 em118 em218 em318 em518 "ValueError.__new__")) (eb18 : PySem.HandSPX.refsVE ebm18 = true) (es18 : PySem.W.findIn K (.ref eC18) "__setattr__" = some (some (.builtin "object.__setattr__"))) (eg18 : PySem.W.findIn K (.ref eC18) "__getattribute__" = some (some (.builtin "BaseException.__getattribute__"))) (eh18 : PySem.W.findIn K (.ref eC18) "__getattr__" = some none) (en18 : PySem.W.findIn K (.ref eC18) "value" = some none) (ei18 : PySem.W.findIn K (.ref eC18) "__init__" = some (some (.ref ef18))) (ej18 : PySem.W.typeIn K (.ref ef18) = some (.type "function")) (el18 : K.lookup ef18 = some ⟨eoc18, eod18, .func (PySem.W.fnOf "__init__" "NoPair.__init__" (PySem.ErrX.iA "value" ep118 ep218) (PySem.ErrX.iB "value" eq118 eq218 eq318 eq418) (PySem.ErrX.iS "value") .none .none edc18 epm18 ean18 ecd18 ect18), esl18⟩) (ec18 : PySem.W.codeIn K ecd18 "NoPair.__init__" = true) (ek18 : PySem.W.keepIn K (.ref eC18) = true) (ee18 : PySem.W.subIn K (.ref eC18) (.type "BaseException") = some true) (et18 : PySem.W.typeIn K (.ref eC18) = some (.type "type")) (ey18 : PySem.W.hasDictIn K eC18 = true)
    {eC19 : Addr} (ea19 : PySem.W.nsIn K mainGlobals "NoPreference" = some (some (.ref eC19))) (ex19 : PySem.W.excIn K eC19 [.type "ValueError", .type "Exception", .type "BaseException", .type "object"] "ValueError.__new__" = true) (ek19 : PySem.W.keepIn K (.ref eC19) = true) (ee19 : PySem.W.subIn K (.ref eC19) (.type "BaseException") = some true) (et19 : PySem.W.typeIn K (.ref eC19) = some (.type "type"))
    {eC20 : Addr} (ea20 : PySem.W.nsIn K mainGlobals "NoRule" = some (some (.ref eC20))) (ex20 : PySem.W.excIn K eC20 [.type "ValueError", .type "Exception", .type "BaseException", .type "object"] "ValueError.__new__" = true) (ek20 : PySem.W.keepIn K (.ref eC20) = true) (ee20 : PySem.W.subIn K (.ref eC20) (.type "BaseException") = some true) (et20 : PySem.W.typeIn K (.ref eC20) = some (.type "type"))
    {eC21 ef21 eN21 : Addr} {enm21 eq21 : Str} {ebs21 : List Value} {esn21 : List Str} {esub21 ebm21 : List Value} {eab21 : Bool} {ecol21 : Option Bool} {edd21 : Option Addr} {em021 em121 em221 em321 em521 : Option Value} {eod21 ean21 : Option Addr} {esl21 : Array (Option Value)} {eoc21 edc21 epm21 ecd21 ect21 : Value} {ep121 ep221 eq121 eq221 eq321 eq421 : Pos} (ea21 : PySem.W.nsIn K mainGlobals "NoVersion" = some (some (.ref eC21))) (ex21 : K.lookup eC21 = some (excClassObj enm21 eq21 eC21 eN21 ebs21 ebm21 true esn21 esub21 eab21 ecol21 edd21 em021 em121 em221 em321 em521 "ValueError.__new__")) (eb21 : PySem.HandSPX.refsVE ebm21 = true) (es21 : PySem.W.findIn K (.ref eC21) "__setattr__" = some (some (.builtin "object.__setattr__"))) (eg21 : PySem.W.findIn K (.ref eC21) "__getattribute__" = some (some (.builtin "BaseException.__getattribute__"))) (eh21 : PySem.W.findIn K (.ref eC21) "__getattr__" = some none) (en21 : PySem.W.findIn K (.ref eC21) "version" = some none) (ei21 : PySem.W.findIn K (.ref eC21) "__init__" = some (some (.ref ef21))) (ej21 : PySem.W.typeIn K (.ref ef21) = some (.type "function")) (el21 : K.lookup ef21 = some ⟨eoc21, eod21, .func (PySem.W.fnOf "__init__" "NoVersion.__init__" (PySem.ErrX.iA "version" ep121 ep221) (PySem.ErrX.iB "version" eq121 eq221 eq321 eq421) (PySem.ErrX.iS "version") .none .none edc21 epm21 ean21 ecd21 ect21), esl21⟩) (ec21 : PySem.W.codeIn K ecd21 "NoVersion.__init__" = true) (ek21 : PySem.W.keepIn K (.ref eC21) = true) (ee21 : PySem.W.subIn K (.ref eC21) (.type "BaseException") = some true) (et21 : PySem.W.typeIn K (.ref eC21) = some (.type "type")) (ey21 : PySem.W.hasDictIn K eC21 = true)
    {eC22 : Addr} (ea22 : PySem.W.nsIn K mainGlobals "NothingToUndo" = some (some (.ref eC22))) (ex22 : PySem.W.excIn K eC22 [.type "ValueError", .type "Exception", .type "BaseException", .type "object"] "ValueError.__new__" = true) (ek22 : PySem.W.keepIn K (.ref eC22) = true) (ee22 : PySem.W.subIn K (.ref eC22) (.type "BaseException") = some true) (et22 : PySem.W.typeIn K (.ref eC22) = some (.type "type"))
    {eC23 ef23 eN23 : Addr} {enm23 eq23 : Str} {ebs23 : List Value} {esn23 : List Str} {esub23 ebm23 : List Value} {eab23 : Bool} {ecol23 : Option Bool} {edd23 : Option Addr} {em023 em123 em223 em323 em523 : Option Value} {eod23 ean23 : Option Addr} {esl23 : Array (Option Value)} {eoc23 edc23 epm23 ecd23 ect23 : Value} {ep123 ep223 eq123 eq223 eq323 eq423 : Pos} (ea23 : PySem.W.nsIn K mainGlobals "OtherLanes" = some (some (.ref eC23))) (ex23 : K.lookup eC23 = some (excClassObj enm23 eq23 eC23 eN23 ebs23 ebm23 true esn23 esub23 eab23 ecol23 edd23 em023 em123 em223 em323 em523 "ValueError.__new__")) (eb23 : PySem.HandSPX.refsVE ebm23 = true) (es23 : PySem.W.findIn K (.ref eC23) "__setattr__" = some (some (.builtin "object.__setattr__"))) (eg23 : PySem.W.findIn K (.ref eC23) "__getattribute__" = some (some (.builtin "BaseException.__getattribute__"))) (eh23 : PySem.W.findIn K (.ref eC23) "__getattr__" = some none) (en23 : PySem.W.findIn K (.ref eC23) "count" = some none) (ei23 : PySem.W.findIn K (.ref eC23) "__init__" = some (some (.ref ef23))) (ej23 : PySem.W.typeIn K (.ref ef23) = some (.type "function")) (el23 : K.lookup ef23 = some ⟨eoc23, eod23, .func (PySem.W.fnOf "__init__" "OtherLanes.__init__" (PySem.ErrX.iA "count" ep123 ep223) (PySem.ErrX.iB "count" eq123 eq223 eq323 eq423) (PySem.ErrX.iS "count") .none .none edc23 epm23 ean23 ecd23 ect23), esl23⟩) (ec23 : PySem.W.codeIn K ecd23 "OtherLanes.__init__" = true) (ek23 : PySem.W.keepIn K (.ref eC23) = true) (ee23 : PySem.W.subIn K (.ref eC23) (.type "BaseException") = some true) (et23 : PySem.W.typeIn K (.ref eC23) = some (.type "type")) (ey23 : PySem.W.hasDictIn K eC23 = true)
    {eC24 : Addr} (ea24 : PySem.W.nsIn K mainGlobals "OtherOrder" = some (some (.ref eC24))) (ex24 : PySem.W.excIn K eC24 [.type "ValueError", .type "Exception", .type "BaseException", .type "object"] "ValueError.__new__" = true) (ek24 : PySem.W.keepIn K (.ref eC24) = true) (ee24 : PySem.W.subIn K (.ref eC24) (.type "BaseException") = some true) (et24 : PySem.W.typeIn K (.ref eC24) = some (.type "type"))
    {eC25 ef25 eN25 : Addr} {enm25 eq25 : Str} {ebs25 : List Value} {esn25 : List Str} {esub25 ebm25 : List Value} {eab25 : Bool} {ecol25 : Option Bool} {edd25 : Option Addr} {em025 em125 em225 em325 em525 : Option Value} {eod25 ean25 : Option Addr} {esl25 : Array (Option Value)} {eoc25 edc25 epm25 ecd25 ect25 : Value} {ep125 ep225 eq125 eq225 eq325 eq425 : Pos} (ea25 : PySem.W.nsIn K mainGlobals "PassedOver" = some (some (.ref eC25))) (ex25 : K.lookup eC25 = some (excClassObj enm25 eq25 eC25 eN25 ebs25 ebm25 true esn25 esub25 eab25 ecol25 edd25 em025 em125 em225 em325 em525 "ValueError.__new__")) (eb25 : PySem.HandSPX.refsVE ebm25 = true) (es25 : PySem.W.findIn K (.ref eC25) "__setattr__" = some (some (.builtin "object.__setattr__"))) (eg25 : PySem.W.findIn K (.ref eC25) "__getattribute__" = some (some (.builtin "BaseException.__getattribute__"))) (eh25 : PySem.W.findIn K (.ref eC25) "__getattr__" = some none) (en25 : PySem.W.findIn K (.ref eC25) "lane" = some none) (ei25 : PySem.W.findIn K (.ref eC25) "__init__" = some (some (.ref ef25))) (ej25 : PySem.W.typeIn K (.ref ef25) = some (.type "function")) (el25 : K.lookup ef25 = some ⟨eoc25, eod25, .func (PySem.W.fnOf "__init__" "PassedOver.__init__" (PySem.ErrX.iA "lane" ep125 ep225) (PySem.ErrX.iB "lane" eq125 eq225 eq325 eq425) (PySem.ErrX.iS "lane") .none .none edc25 epm25 ean25 ecd25 ect25), esl25⟩) (ec25 : PySem.W.codeIn K ecd25 "PassedOver.__init__" = true) (ek25 : PySem.W.keepIn K (.ref eC25) = true) (ee25 : PySem.W.subIn K (.ref eC25) (.type "BaseException") = some true) (et25 : PySem.W.typeIn K (.ref eC25) = some (.type "type")) (ey25 : PySem.W.hasDictIn K eC25 = true)
    {eC26 ef26 eN26 : Addr} {enm26 eq26 : Str} {ebs26 : List Value} {esn26 : List Str} {esub26 ebm26 : List Value} {eab26 : Bool} {ecol26 : Option Bool} {edd26 : Option Addr} {em026 em126 em226 em326 em526 : Option Value} {eod26 ean26 : Option Addr} {esl26 : Array (Option Value)} {eoc26 edc26 epm26 ecd26 ect26 : Value} {ep126 ep226 eq126 eq226 eq326 eq426 : Pos} (ea26 : PySem.W.nsIn K mainGlobals "Rejected" = some (some (.ref eC26))) (ex26 : K.lookup eC26 = some (excClassObj enm26 eq26 eC26 eN26 ebs26 ebm26 true esn26 esub26 eab26 ecol26 edd26 em026 em126 em226 em326 em526 "ValueError.__new__")) (eb26 : PySem.HandSPX.refsVE ebm26 = true) (es26 : PySem.W.findIn K (.ref eC26) "__setattr__" = some (some (.builtin "object.__setattr__"))) (eg26 : PySem.W.findIn K (.ref eC26) "__getattribute__" = some (some (.builtin "BaseException.__getattribute__"))) (eh26 : PySem.W.findIn K (.ref eC26) "__getattr__" = some none) (en26 : PySem.W.findIn K (.ref eC26) "index" = some none) (ei26 : PySem.W.findIn K (.ref eC26) "__init__" = some (some (.ref ef26))) (ej26 : PySem.W.typeIn K (.ref ef26) = some (.type "function")) (el26 : K.lookup ef26 = some ⟨eoc26, eod26, .func (PySem.W.fnOf "__init__" "Rejected.__init__" (PySem.ErrX.iA "index" ep126 ep226) (PySem.ErrX.iB "index" eq126 eq226 eq326 eq426) (PySem.ErrX.iS "index") .none .none edc26 epm26 ean26 ecd26 ect26), esl26⟩) (ec26 : PySem.W.codeIn K ecd26 "Rejected.__init__" = true) (ek26 : PySem.W.keepIn K (.ref eC26) = true) (ee26 : PySem.W.subIn K (.ref eC26) (.type "BaseException") = some true) (et26 : PySem.W.typeIn K (.ref eC26) = some (.type "type")) (ey26 : PySem.W.hasDictIn K eC26 = true)
    {eC27 ef27 eN27 : Addr} {enm27 eq27 : Str} {ebs27 : List Value} {esn27 : List Str} {esub27 ebm27 : List Value} {eab27 : Bool} {ecol27 : Option Bool} {edd27 : Option Addr} {em027 em127 em227 em327 em527 : Option Value} {eod27 ean27 : Option Addr} {esl27 : Array (Option Value)} {eoc27 edc27 epm27 ecd27 ect27 : Value} {ep127 ep227 eq127 eq227 eq327 eq427 : Pos} (ea27 : PySem.W.nsIn K mainGlobals "TooLarge" = some (some (.ref eC27))) (ex27 : K.lookup eC27 = some (excClassObj enm27 eq27 eC27 eN27 ebs27 ebm27 true esn27 esub27 eab27 ecol27 edd27 em027 em127 em227 em327 em527 "ValueError.__new__")) (eb27 : PySem.HandSPX.refsVE ebm27 = true) (es27 : PySem.W.findIn K (.ref eC27) "__setattr__" = some (some (.builtin "object.__setattr__"))) (eg27 : PySem.W.findIn K (.ref eC27) "__getattribute__" = some (some (.builtin "BaseException.__getattribute__"))) (eh27 : PySem.W.findIn K (.ref eC27) "__getattr__" = some none) (en27 : PySem.W.findIn K (.ref eC27) "limit" = some none) (ei27 : PySem.W.findIn K (.ref eC27) "__init__" = some (some (.ref ef27))) (ej27 : PySem.W.typeIn K (.ref ef27) = some (.type "function")) (el27 : K.lookup ef27 = some ⟨eoc27, eod27, .func (PySem.W.fnOf "__init__" "TooLarge.__init__" (PySem.ErrX.iA "limit" ep127 ep227) (PySem.ErrX.iB "limit" eq127 eq227 eq327 eq427) (PySem.ErrX.iS "limit") .none .none edc27 epm27 ean27 ecd27 ect27), esl27⟩) (ec27 : PySem.W.codeIn K ecd27 "TooLarge.__init__" = true) (ek27 : PySem.W.keepIn K (.ref eC27) = true) (ee27 : PySem.W.subIn K (.ref eC27) (.type "BaseException") = some true) (et27 : PySem.W.typeIn K (.ref eC27) = some (.type "type")) (ey27 : PySem.W.hasDictIn K eC27 = true)
    {eC28 : Addr} (ea28 : PySem.W.nsIn K mainGlobals "TooManyEdits" = some (some (.ref eC28))) (ex28 : PySem.W.excIn K eC28 [.type "ValueError", .type "Exception", .type "BaseException", .type "object"] "ValueError.__new__" = true) (ek28 : PySem.W.keepIn K (.ref eC28) = true) (ee28 : PySem.W.subIn K (.ref eC28) (.type "BaseException") = some true) (et28 : PySem.W.typeIn K (.ref eC28) = some (.type "type"))
    {t_c0 : Tok} (y0 : PySem.W.nsIn K mainGlobals "BATCH" = some (some (.int 20 t_c0))) {t_c1 : Tok} (y1 : PySem.W.nsIn K mainGlobals "HISTORY" = some (some (.int 30 t_c1))) {t_c2 : Tok} (y2 : PySem.W.nsIn K mainGlobals "MAX_CARS" = some (some (.int 40 t_c2))) {t_c3 : Tok} (y3 : PySem.W.nsIn K mainGlobals "MAX_LANES" = some (some (.int 6 t_c3))) {t_c4 : Tok} (y4 : PySem.W.nsIn K mainGlobals "SMALL" = some (some (.int 8 t_c4))) (z0 : PySem.W.nsIn K mainGlobals "len" = some none) (z1 : PySem.W.nsIn K mainGlobals "abs" = some none) (z2 : PySem.W.nsIn K mainGlobals "min" = some none) (z3 : PySem.W.nsIn K mainGlobals "max" = some none) (z4 : PySem.W.nsIn K mainGlobals "sum" = some none) (z5 : PySem.W.nsIn K mainGlobals "all" = some none) (z6 : PySem.W.nsIn K mainGlobals "any" = some none) (z7 : PySem.W.nsIn K mainGlobals "sorted" = some none) (z8 : PySem.W.nsIn K mainGlobals "repr" = some none) (z9 : PySem.W.nsIn K mainGlobals "int" = some none) (z10 : PySem.W.nsIn K mainGlobals "str" = some none) (z11 : PySem.W.nsIn K mainGlobals "tuple" = some none) (z12 : PySem.W.nsIn K mainGlobals "list" = some none) (z13 : PySem.W.nsIn K mainGlobals "isinstance" = some none) (z14 : PySem.W.nsIn K mainGlobals "bool" = some none) (z15 : PySem.W.nsIn K mainGlobals "dict" = some none) (z16 : PySem.W.nsIn K mainGlobals "set" = some none) (z17 : PySem.W.nsIn K mainGlobals "range" = some none) (z18 : PySem.W.nsIn K mainGlobals "enumerate" = some none) (z19 : PySem.W.nsIn K mainGlobals "zip" = some none) (z20 : PySem.W.nsIn K mainGlobals "reversed" = some none) : Defs K mg where
  bt := by
    intro x hx
    simp only [biNames, List.mem_cons, List.not_mem_nil, or_false] at hx
    rcases hx with rfl | rfl | rfl | rfl | rfl | rfl | rfl | rfl | rfl | rfl | rfl | rfl | rfl | rfl | rfl | rfl | rfl | rfl | rfl | rfl | rfl
    · exact PySem.W.mg_none_of KX Gn z0
    · exact PySem.W.mg_none_of KX Gn z1
    · exact PySem.W.mg_none_of KX Gn z2
    · exact PySem.W.mg_none_of KX Gn z3
    · exact PySem.W.mg_none_of KX Gn z4
    · exact PySem.W.mg_none_of KX Gn z5
    · exact PySem.W.mg_none_of KX Gn z6
    · exact PySem.W.mg_none_of KX Gn z7
    · exact PySem.W.mg_none_of KX Gn z8
    · exact PySem.W.mg_none_of KX Gn z9
    · exact PySem.W.mg_none_of KX Gn z10
    · exact PySem.W.mg_none_of KX Gn z11
    · exact PySem.W.mg_none_of KX Gn z12
    · exact PySem.W.mg_none_of KX Gn z13
    · exact PySem.W.mg_none_of KX Gn z14
    · exact PySem.W.mg_none_of KX Gn z15
    · exact PySem.W.mg_none_of KX Gn z16
    · exact PySem.W.mg_none_of KX Gn z17
    · exact PySem.W.mg_none_of KX Gn z18
    · exact PySem.W.mg_none_of KX Gn z19
    · exact PySem.W.mg_none_of KX Gn z20
  d__law_roll := mk_def KX Gn (fun _ _ _ _ _ _ us hl => match us, hl with | [_, _], _ => rfl) a0 l0 c0 k0
  d__law_filled := mk_def KX Gn (fun _ _ _ _ _ _ us hl => match us, hl with | [_], _ => rfl) a1 l1 c1 k1
  d__law_plain := mk_def KX Gn (fun _ _ _ _ _ _ us hl => match us, hl with | [_], _ => rfl) a2 l2 c2 k2
  d__law_alone := mk_def KX Gn (fun _ _ _ _ _ _ us hl => match us, hl with | [_, _], _ => rfl) a3 l3 c3 k3
  d__law_made := mk_def KX Gn (fun _ _ _ _ _ _ us hl => match us, hl with | [_], _ => rfl) a4 l4 c4 k4
  d__law_one := mk_def KX Gn (fun _ _ _ _ _ _ us hl => match us, hl with | [_, _], _ => rfl) a5 l5 c5 k5
  d__law_odd := mk_def KX Gn (fun _ _ _ _ _ _ us hl => match us, hl with | [_], _ => rfl) a6 l6 c6 k6
  d__law_opened := mk_def KX Gn (fun _ _ _ _ _ _ us hl => match us, hl with | [_], _ => rfl) a7 l7 c7 k7
  d_law := mk_def KX Gn (fun _ _ _ _ _ _ us hl => match us, hl with | [_], _ => rfl) a8 l8 c8 k8
  g_BATCH := ⟨_, PySem.W.mg_of KX Gn y0⟩
  g_HISTORY := ⟨_, PySem.W.mg_of KX Gn y1⟩
  g_MAX_CARS := ⟨_, PySem.W.mg_of KX Gn y2⟩
  g_MAX_LANES := ⟨_, PySem.W.mg_of KX Gn y3⟩
  g_SMALL := ⟨_, PySem.W.mg_of KX Gn y4⟩
  e_obj := objs_of KX Gn ⟨_, PySem.W.mg_of KX Gn hP⟩ eT
  m_Absent := mkf_of (fl := "car") KX Gn (by decide +kernel) (by decide +kernel) (by decide +kernel) (by decide +kernel) (by decide +kernel) (fun _ _ _ _ _ _ _ _ _ _ _ _ _ => rfl) ea0 ex0 eb0 es0 eg0 eh0 en0 ei0 ej0 el0 ec0 ek0 ee0 et0 ey0
  m_BadBatch := mk0_of KX Gn (by decide +kernel) ea1 ex1 ek1 ee1 et1
  m_BadCount := mkf_of (fl := "index") KX Gn (by decide +kernel) (by decide +kernel) (by decide +kernel) (by decide +kernel) (by decide +kernel) (fun _ _ _ _ _ _ _ _ _ _ _ _ _ => rfl) ea2 ex2 eb2 es2 eg2 eh2 en2 ei2 ej2 el2 ec2 ek2 ee2 et2 ey2
  m_BadDay := mkf_of (fl := "index") KX Gn (by decide +kernel) (by decide +kernel) (by decide +kernel) (by decide +kernel) (by decide +kernel) (fun _ _ _ _ _ _ _ _ _ _ _ _ _ => rfl) ea3 ex3 eb3 es3 eg3 eh3 en3 ei3 ej3 el3 ec3 ek3 ee3 et3 ey3
  m_BadRow := mkf_of (fl := "error") KX Gn (by decide +kernel) (by decide +kernel) (by decide +kernel) (by decide +kernel) (by decide +kernel) (fun _ _ _ _ _ _ _ _ _ _ _ _ _ => rfl) ea4 ex4 eb4 es4 eg4 eh4 en4 ei4 ej4 el4 ec4 ek4 ee4 et4 ey4
  m_BadRule := mkf_of (fl := "error") KX Gn (by decide +kernel) (by decide +kernel) (by decide +kernel) (by decide +kernel) (by decide +kernel) (fun _ _ _ _ _ _ _ _ _ _ _ _ _ => rfl) ea5 ex5 eb5 es5 eg5 eh5 en5 ei5 ej5 el5 ec5 ek5 ee5 et5 ey5
  m_BadText := mkf_of (fl := "index") KX Gn (by decide +kernel) (by decide +kernel) (by decide +kernel) (by decide +kernel) (by decide +kernel) (fun _ _ _ _ _ _ _ _ _ _ _ _ _ => rfl) ea6 ex6 eb6 es6 eg6 eh6 en6 ei6 ej6 el6 ec6 ek6 ee6 et6 ey6
  m_BadWish := mkf_of (fl := "index") KX Gn (by decide +kernel) (by decide +kernel) (by decide +kernel) (by decide +kernel) (by decide +kernel) (fun _ _ _ _ _ _ _ _ _ _ _ _ _ => rfl) ea7 ex7 eb7 es7 eg7 eh7 en7 ei7 ej7 el7 ec7 ek7 ee7 et7 ey7
  m_BadWord := mkf_of (fl := "error") KX Gn (by decide +kernel) (by decide +kernel) (by decide +kernel) (by decide +kernel) (by decide +kernel) (fun _ _ _ _ _ _ _ _ _ _ _ _ _ => rfl) ea8 ex8 eb8 es8 eg8 eh8 en8 ei8 ej8 el8 ec8 ek8 ee8 et8 ey8
  m_Busy := mk0_of KX Gn (by decide +kernel) ea9 ex9 ek9 ee9 et9
  m_Empty := mk0_of KX Gn (by decide +kernel) ea10 ex10 ek10 ee10 et10
  m_Impossible := mk0_of KX Gn (by decide +kernel) ea11 ex11 ek11 ee11 et11
  m_NoCar := mkf_of (fl := "value") KX Gn (by decide +kernel) (by decide +kernel) (by decide +kernel) (by decide +kernel) (by decide +kernel) (fun _ _ _ _ _ _ _ _ _ _ _ _ _ => rfl) ea12 ex12 eb12 es12 eg12 eh12 en12 ei12 ej12 el12 ec12 ek12 ee12 et12 ey12
  m_NoCount := mkf_of (fl := "value") KX Gn (by decide +kernel) (by decide +kernel) (by decide +kernel) (by decide +kernel) (by decide +kernel) (fun _ _ _ _ _ _ _ _ _ _ _ _ _ => rfl) ea13 ex13 eb13 es13 eg13 eh13 en13 ei13 ej13 el13 ec13 ek13 ee13 et13 ey13
  m_NoHistory := mk0_of KX Gn (by decide +kernel) ea14 ex14 ek14 ee14 et14
  m_NoIndex := mkf_of (fl := "index") KX Gn (by decide +kernel) (by decide +kernel) (by decide +kernel) (by decide +kernel) (by decide +kernel) (fun _ _ _ _ _ _ _ _ _ _ _ _ _ => rfl) ea15 ex15 eb15 es15 eg15 eh15 en15 ei15 ej15 el15 ec15 ek15 ee15 et15 ey15
  m_NoLane := mkf_of (fl := "value") KX Gn (by decide +kernel) (by decide +kernel) (by decide +kernel) (by decide +kernel) (by decide +kernel) (fun _ _ _ _ _ _ _ _ _ _ _ _ _ => rfl) ea16 ex16 eb16 es16 eg16 eh16 en16 ei16 ej16 el16 ec16 ek16 ee16 et16 ey16
  m_NoOrder := mk0_of KX Gn (by decide +kernel) ea17 ex17 ek17 ee17 et17
  m_NoPair := mkf_of (fl := "value") KX Gn (by decide +kernel) (by decide +kernel) (by decide +kernel) (by decide +kernel) (by decide +kernel) (fun _ _ _ _ _ _ _ _ _ _ _ _ _ => rfl) ea18 ex18 eb18 es18 eg18 eh18 en18 ei18 ej18 el18 ec18 ek18 ee18 et18 ey18
  m_NoPreference := mk0_of KX Gn (by decide +kernel) ea19 ex19 ek19 ee19 et19
  m_NoRule := mk0_of KX Gn (by decide +kernel) ea20 ex20 ek20 ee20 et20
  m_NoVersion := mkf_of (fl := "version") KX Gn (by decide +kernel) (by decide +kernel) (by decide +kernel) (by decide +kernel) (by decide +kernel) (fun _ _ _ _ _ _ _ _ _ _ _ _ _ => rfl) ea21 ex21 eb21 es21 eg21 eh21 en21 ei21 ej21 el21 ec21 ek21 ee21 et21 ey21
  m_NothingToUndo := mk0_of KX Gn (by decide +kernel) ea22 ex22 ek22 ee22 et22
  m_OtherLanes := mkf_of (fl := "count") KX Gn (by decide +kernel) (by decide +kernel) (by decide +kernel) (by decide +kernel) (by decide +kernel) (fun _ _ _ _ _ _ _ _ _ _ _ _ _ => rfl) ea23 ex23 eb23 es23 eg23 eh23 en23 ei23 ej23 el23 ec23 ek23 ee23 et23 ey23
  m_OtherOrder := mk0_of KX Gn (by decide +kernel) ea24 ex24 ek24 ee24 et24
  m_PassedOver := mkf_of (fl := "lane") KX Gn (by decide +kernel) (by decide +kernel) (by decide +kernel) (by decide +kernel) (by decide +kernel) (fun _ _ _ _ _ _ _ _ _ _ _ _ _ => rfl) ea25 ex25 eb25 es25 eg25 eh25 en25 ei25 ej25 el25 ec25 ek25 ee25 et25 ey25
  m_Rejected := mkf_of (fl := "index") KX Gn (by decide +kernel) (by decide +kernel) (by decide +kernel) (by decide +kernel) (by decide +kernel) (fun _ _ _ _ _ _ _ _ _ _ _ _ _ => rfl) ea26 ex26 eb26 es26 eg26 eh26 en26 ei26 ej26 el26 ec26 ek26 ee26 et26 ey26
  m_TooLarge := mkf_of (fl := "limit") KX Gn (by decide +kernel) (by decide +kernel) (by decide +kernel) (by decide +kernel) (by decide +kernel) (fun _ _ _ _ _ _ _ _ _ _ _ _ _ => rfl) ea27 ex27 eb27 es27 eg27 eh27 en27 ei27 ej27 el27 ec27 ek27 ee27 et27 ey27
  m_TooManyEdits := mk0_of KX Gn (by decide +kernel) ea28 ex28 ek28 ee28 et28
end

end PyI

set_option maxRecDepth 100000
set_option maxHeartbeats 0
namespace PyI
open PySem PySem.Spec PyProof.Rows L2 TL
local macro_rules | `(tactic| and_intros) => `(tactic| repeat' (first
  | (with_reducible apply x_norm; · (simp only [List.set_cons_zero, List.set_cons_succ]; rfl))
  | with_reducible refine s_cons ?_ | with_reducible refine s_nil ?_
  | with_reducible refine s_set ?_ | with_reducible refine s_setO ?_ | with_reducible refine s_par ?_ | with_reducible refine s_unp ?_ | with_reducible refine s_ret ?_ | with_reducible refine s_retN ?_ | with_reducible refine s_ift ?_ | with_reducible refine s_expr ?_ | with_reducible refine s_setI ?_
  | with_reducible apply s_frz | with_reducible apply s_app | with_reducible apply s_ext | with_reducible apply s_aug | with_reducible apply s_appPop | with_reducible apply s_setPop | with_reducible refine s_brk ?_ | with_reducible refine s_cont ?_
  | with_reducible apply w_v | with_reducible refine w_ci ?_ | with_reducible refine w_cs ?_ | with_reducible refine w_cb ?_ | with_reducible refine w_cn ?_
  | with_reducible refine w_bin ?_ | with_reducible refine w_cmp ?_ | with_reducible refine w_call ?_ | with_reducible refine w_bi ?_ | with_reducible refine w_idx ?_ | with_reducible refine w_tup ?_ | with_reducible refine w_lst ?_
  | with_reducible refine w_nil ?_ | with_reducible refine w_cons ?_ | with_reducible apply w_vb | with_reducible refine w_g ?_ | with_reducible refine w_neg ?_ | with_reducible refine w_not ?_ | with_reducible refine w_chain ?_
  | with_reducible refine w_and ?_ | with_reducible refine w_or ?_ | with_reducible refine w_and1 ?_ | with_reducible refine w_or1 ?_ | with_reducible refine w_andC ?_ | with_reducible refine w_orC ?_ | with_reducible refine w_ife ?_
  | with_reducible refine w_slcL ?_ | with_reducible refine w_slcH ?_ | with_reducible refine w_slcB ?_ | with_reducible refine w_rev ?_ | with_reducible refine w_isi ?_ | with_reducible refine w_lenset ?_ | with_reducible refine w_mth ?_ | with_reducible refine w_cv ?_ | with_reducible refine w_dct ?_
  | with_reducible refine w_all0 ?_ | with_reducible refine w_allC ?_ | with_reducible refine w_ie ?_ | with_reducible refine w_enum ?_ | with_reducible refine w_rng1 ?_ | with_reducible refine w_rng2 ?_ | with_reducible refine w_one ?_ | with_reducible refine w_oneIf ?_
  | with_reducible refine o_eqI ?_ | with_reducible refine o_neI ?_ | with_reducible refine o_eqS ?_ | with_reducible refine o_neS ?_ | with_reducible refine o_eqL ?_ | with_reducible refine o_neL ?_
  | (with_reducible refine o_addT ?_ ?_; · (first | omega | (simp only [List.length_append, List.length_cons, List.length_nil, List.length_map, List.length_reverse, List.length_replicate]; omega)))
  | (with_reducible refine o_addL ?_ ?_; · (first | omega | (simp only [List.length_append, List.length_cons, List.length_nil, List.length_map, List.length_reverse, List.length_replicate]; omega)))
  | (with_reducible refine o_addS ?_ ?_; · (first | omega | (simp only [PySem.Str.length_append]; omega)))
  | (with_reducible refine o_slcS ?_ ?_; · (first | omega | (simp only [PySem.Str.length_append]; omega)))
  | (with_reducible refine o_revS ?_ ?_; · (first | omega | (simp only [PySem.Str.length_append]; omega)))
  | (with_reducible refine o_lenS ?_ ?_; · (first | omega | (simp only [PySem.Str.length_append]; omega)))
  | refine O.of rfl ?_ | with_reducible refine Cb.yes ?_ | with_reducible refine Cb.nope ?_ | with_reducible refine Cb.dec ?_ ?_ | refine Mq.mk rfl ?_ | refine Bq.t ?_ | refine Bq.f ?_ | with_reducible refine Bq.dec ?_ ?_ | with_reducible refine Bq.ndec ?_ ?_ | exact Eq.refl _))
theorem one_ok {n h : Nat} {xs : List D} {g : D} {v : D} {Q : D → D → Prop} (hv : v = .lst xs ∨ v = .tup xs) (hx : 1 ≤ xs.length ∧ xs.length ≤ 1000) (hg : Hd n g) (hn : n + 1 < 1000000000) (q : ∀ d g1, d ∈ xs → Hd (n + 1) g1 → Q d g1) : W (s__law_one [.han h, v] g) Q := by
  unfold s__law_one
  refine w_fn rfl ?_
  simp only [b__law_one, List.map_cons, List.map_nil, List.cons_append, List.nil_append, List.replicate_succ, List.replicate_zero, Nat.reduceSub]
  and_intros
  have e0 : biF .len [v] = some (.int (xs.length : Nat)) := by rcases hv with rfl | rfl <;> rfl
  refine O.of e0 ?_
  and_intros
  refine w_roll hg (by omega) (by omega) (by omega) fun r g1 h1 h2 h3 => ?_
  and_intros
  have e1 : ∃ d ∈ xs, idxF v (.int r) = some d := by
    rcases hv with rfl | rfl
    · exact idx_lst h2 h3
    · exact idx_tup h2 h3
  obtain ⟨d, hd, e1⟩ := e1
  refine O.of e1 ?_
  and_intros
  exact q d g1 hd h1

theorem niceTN {N k L : Nat} {xs : List D} (h : ∀ x ∈ xs, Nice N k x) (hl : xs.length ≤ L) : Nice ((N + 1) * L) (k + 1) (.tup xs) := (Nice.tup (NiceS.of_all h)).mono (Nat.mul_le_mul_left _ hl) (Nat.le_refl _)
theorem niceLN {N k L : Nat} {xs : List D} (h : ∀ x ∈ xs, Nice N k x) (hl : xs.length ≤ L) : Nice ((N + 1) * L) (k + 1) (.lst xs) := (Nice.lst (NiceS.of_all h)).mono (Nat.mul_le_mul_left _ hl) (Nat.le_refl _)
theorem each_one {P : D → Prop} {x : D} (h : P x) : ∀ y ∈ [x], P y := fun y hy => by rw [List.mem_singleton] at hy; exact hy ▸ h
theorem odd_ok {n h : Nat} {g : D} {Q : D → D → Prop} (hg : Hd n g) (hn : n + 1 < 1000000000) (q : ∀ d g1, Nice 1000 3 d → Hd (n + 1) g1 → Q d g1) : W (s__law_odd [.han h] g) Q := by
  unfold s__law_odd
  refine w_fn rfl ?_
  simp only [b__law_odd, List.map_cons, List.map_nil, List.cons_append, List.nil_append, List.replicate_succ, List.replicate_zero, Nat.reduceSub]
  and_intros
  refine one_ok (.inl rfl) (by simp) hg hn fun d g1 hd h1 => ?_
  and_intros
  refine q d g1 (Nice.ofB ?_) h1
  exact List.all_eq_true.mp (by decide +kernel) d hd
/-! ### errors as values -/
theorem w_new1 {c : Str} {d g : D} {Q : D → D → Prop} (hf : (fldC c).isSome = true) (q : Q (.obj c [(fldC c).getD ""] [d]) g) : W (newErrS c [d] g) Q := by
  refine .of ?_ q
  unfold newErrS
  cases h : fldC c with
  | none => rw [h] at hf; cases hf
  | some f => rfl
theorem w_new0 {c : Str} {g : D} {Q : D → D → Prop} (hf : fldC c = none) (q : Q (.obj c [] []) g) : W (newErrS c [] g) Q := by
  refine .of ?_ q
  unfold newErrS
  rw [hf]
theorem w_isa {c x : Str} {ns : List Str} {vs : List D} {L : List Str} {g : D} {Q : D → D → Prop} (hc : c ∈ L) (hk : knownE L x = true) (q : Q (.bl (subE c x)) g) : W (isaS L x [.obj c ns vs] g) Q := by
  refine .of ?_ q
  unfold isaS
  exact if_pos ⟨hc, hk⟩
theorem w_fld {c fl : Str} {d : D} {L : List Str} {g : D} {Q : D → D → Prop} (hc : c ∈ L) (hf : fldC c = some fl) (q : Q d g) : W (fldS L fl [.obj c [(fldC c).getD ""] [d]] g) Q := by
  refine .of ?_ q
  unfold fldS
  exact if_pos ⟨hc, hf, by rw [hf]; rfl⟩
def plainN : List Str := ["BadBatch", "Busy", "Empty", "Impossible", "NoHistory", "NoOrder", "NoPreference", "NoRule", "NothingToUndo", "OtherOrder", "TooManyEdits"]
def filledN : List Str := ["Absent", "BadCount", "BadDay", "BadRow", "BadRule", "BadText", "BadWish", "BadWord", "NoCar", "NoCount", "NoIndex", "NoLane", "NoPair", "NoVersion", "OtherLanes", "PassedOver", "Rejected", "TooLarge"]
def kindsA (N : List Str) (c : Str) : List Int := (upto N.length).filter fun k => subE c (N[k.toNat]?.getD "")
theorem kinds_lc {N : List Str} {c : Str} {ρ : Rho} {g : D} {Q : D → D → Prop} {n : Int} (e : ρ = [ρ[0]?.getD .un, .val (.lst (N.map fun x => .bl (subE c x))), .un]) (hn : n = (N.length : Nat)) (hl : N.length ≤ 100) (q : Q (iL (kindsA N c)) g) :
    W (ev (.lc (.one 2) (.rng1 (.c (.int n))) [.idx (.v 1) (.v 2)] (.v 2)) ρ g) Q := by
  subst hn
  rw [e]
  refine w_lc (w_rng1 (w_ci (.of rfl ⟨inBd_int (by omega) (by omega), ?_⟩)))
  rw [Int.toNat_natCast, rngL_upto]
  refine ⟨by rw [List.length_map, upto_length]; omega, ?_⟩
  refine w_filterE (p := fun k : Int => subE c (N[k.toNat]?.getD "")) (fun k hk => ?_) q
  have hk := mem_upto.mp hk
  have hlt : k.toNat < N.length := by omega
  have ei : idxF (.lst (N.map fun x => .bl (subE c x))) (.int k) = some (.bl (subE c (N[k.toNat]?.getD ""))) := by
    show atI _ k = _
    refine atI_of (i := k.toNat) ?_ (by rw [List.getElem?_map, List.getElem?_eq_getElem hlt]; rfl)
    unfold ixN
    rw [if_pos hk.1, if_pos (by rw [List.length_map]; omega)]
  refine w_oneIf (w_allC (w_idx (w_v rfl (w_v rfl (.of ei (Bq.of (fun h => ?_) fun h => ?_))))))
  · exact w_all0 (Cb.yes (w_v rfl ⟨by rw [if_pos h], rfl⟩))
  · exact Cb.nope ⟨by rw [if_neg (by rw [h]; exact Bool.false_ne_true)], rfl⟩
theorem plain_ok {c : Str} {ns : List Str} {vs : List D} {g : D} {Q : D → D → Prop} (hc : c ∈ errL) (q : Q (iL (kindsA plainN c)) g) : W (s__law_plain [.obj c ns vs] g) Q := by
  unfold s__law_plain
  refine w_fn rfl ?_
  simp only [b__law_plain, List.map_cons, List.map_nil, List.cons_append, List.nil_append, List.replicate_succ, List.replicate_zero, Nat.reduceSub]
  refine s_cons (s_set (w_lst (w_cons (w_call (w_cons (w_v rfl (w_nil (w_isa hc (by decide +kernel) (w_cons (w_call (w_cons (w_v rfl (w_nil (w_isa hc (by decide +kernel) (w_cons (w_call (w_cons (w_v rfl (w_nil (w_isa hc (by decide +kernel) (w_nil ?_)))))))))))))))))))))
  simp only [List.set_cons_zero, List.set_cons_succ]
  refine s_cons (s_set (w_bin (w_v rfl (w_lst (w_cons (w_call (w_cons (w_v rfl (w_nil (w_isa hc (by decide +kernel) (w_cons (w_call (w_cons (w_v rfl (w_nil (w_isa hc (by decide +kernel) (w_cons (w_call (w_cons (w_v rfl (w_nil (w_isa hc (by decide +kernel) (w_nil (o_addL (by simp) ?_))))))))))))))))))))))))
  simp only [List.set_cons_zero, List.set_cons_succ]
  refine s_cons (s_set (w_bin (w_v rfl (w_lst (w_cons (w_call (w_cons (w_v rfl (w_nil (w_isa hc (by decide +kernel) (w_cons (w_call (w_cons (w_v rfl (w_nil (w_isa hc (by decide +kernel) (w_cons (w_call (w_cons (w_v rfl (w_nil (w_isa hc (by decide +kernel) (w_nil (o_addL (by simp) ?_))))))))))))))))))))))))
  simp only [List.set_cons_zero, List.set_cons_succ]
  refine s_cons (s_set (w_bin (w_v rfl (w_lst (w_cons (w_call (w_cons (w_v rfl (w_nil (w_isa hc (by decide +kernel) (w_cons (w_call (w_cons (w_v rfl (w_nil (w_isa hc (by decide +kernel) (w_nil (o_addL (by simp) ?_))))))))))))))))))
  simp only [List.set_cons_zero, List.set_cons_succ]
  refine s_cons (s_ret ?_)
  unfold c1__law_plain
  exact kinds_lc (N := plainN) (c := c) rfl rfl (by decide) q
theorem filled_ok {c : Str} {ns : List Str} {vs : List D} {g : D} {Q : D → D → Prop} (hc : c ∈ errL) (q : Q (iL (kindsA filledN c)) g) : W (s__law_filled [.obj c ns vs] g) Q := by
  unfold s__law_filled
  refine w_fn rfl ?_
  simp only [b__law_filled, List.map_cons, List.map_nil, List.cons_append, List.nil_append, List.replicate_succ, List.replicate_zero, Nat.reduceSub]
  refine s_cons (s_set (w_lst (w_cons (w_call (w_cons (w_v rfl (w_nil (w_isa hc (by decide +kernel) (w_cons (w_call (w_cons (w_v rfl (w_nil (w_isa hc (by decide +kernel) (w_cons (w_call (w_cons (w_v rfl (w_nil (w_isa hc (by decide +kernel) (w_nil ?_)))))))))))))))))))))
  simp only [List.set_cons_zero, List.set_cons_succ]
  refine s_cons (s_set (w_bin (w_v rfl (w_lst (w_cons (w_call (w_cons (w_v rfl (w_nil (w_isa hc (by decide +kernel) (w_cons (w_call (w_cons (w_v rfl (w_nil (w_isa hc (by decide +kernel) (w_cons (w_call (w_cons (w_v rfl (w_nil (w_isa hc (by decide +kernel) (w_nil (o_addL (by simp) ?_))))))))))))))))))))))))
  simp only [List.set_cons_zero, List.set_cons_succ]
  refine s_cons (s_set (w_bin (w_v rfl (w_lst (w_cons (w_call (w_cons (w_v rfl (w_nil (w_isa hc (by decide +kernel) (w_cons (w_call (w_cons (w_v rfl (w_nil (w_isa hc (by decide +kernel) (w_cons (w_call (w_cons (w_v rfl (w_nil (w_isa hc (by decide +kernel) (w_nil (o_addL (by simp) ?_))))))))))))))))))))))))
  simp only [List.set_cons_zero, List.set_cons_succ]
  refine s_cons (s_set (w_bin (w_v rfl (w_lst (w_cons (w_call (w_cons (w_v rfl (w_nil (w_isa hc (by decide +kernel) (w_cons (w_call (w_cons (w_v rfl (w_nil (w_isa hc (by decide +kernel) (w_cons (w_call (w_cons (w_v rfl (w_nil (w_isa hc (by decide +kernel) (w_nil (o_addL (by simp) ?_))))))))))))))))))))))))
  simp only [List.set_cons_zero, List.set_cons_succ]
  refine s_cons (s_set (w_bin (w_v rfl (w_lst (w_cons (w_call (w_cons (w_v rfl (w_nil (w_isa hc (by decide +kernel) (w_cons (w_call (w_cons (w_v rfl (w_nil (w_isa hc (by decide +kernel) (w_cons (w_call (w_cons (w_v rfl (w_nil (w_isa hc (by decide +kernel) (w_nil (o_addL (by simp) ?_))))))))))))))))))))))))
  simp only [List.set_cons_zero, List.set_cons_succ]
  refine s_cons (s_set (w_bin (w_v rfl (w_lst (w_cons (w_call (w_cons (w_v rfl (w_nil (w_isa hc (by decide +kernel) (w_cons (w_call (w_cons (w_v rfl (w_nil (w_isa hc (by decide +kernel) (w_cons (w_call (w_cons (w_v rfl (w_nil (w_isa hc (by decide +kernel) (w_nil (o_addL (by simp) ?_))))))))))))))))))))))))
  simp only [List.set_cons_zero, List.set_cons_succ]
  refine s_cons (s_ret ?_)
  unfold c1__law_filled
  exact kinds_lc (N := filledN) (c := c) rfl rfl (by decide) q
theorem kinds_p : (List.range 11).all (fun k => decide (kindsA plainN (plainN[k]?.getD "") = [(k : Int)]) && decide (kindsA filledN (plainN[k]?.getD "") = []) && decide ((plainN[k]?.getD "") ∈ errL)) = true := by decide +kernel
theorem kinds_f : (List.range 18).all (fun k => decide (kindsA filledN (filledN[k]?.getD "") = [(k : Int)]) && decide (kindsA plainN (filledN[k]?.getD "") = []) && decide ((filledN[k]?.getD "") ∈ errL)) = true := by decide +kernel
end PyI

set_option maxRecDepth 100000
set_option maxHeartbeats 0
namespace PyI
open PySem PySem.Spec PyProof.Rows L2 TL
local macro_rules | `(tactic| and_intros) => `(tactic| repeat' (first
  | (with_reducible apply x_norm; · (simp only [List.set_cons_zero, List.set_cons_succ]; rfl))
  | with_reducible refine s_cons ?_ | with_reducible refine s_nil ?_
  | with_reducible refine s_set ?_ | with_reducible refine s_setO ?_ | with_reducible refine s_par ?_ | with_reducible refine s_unp ?_ | with_reducible refine s_ret ?_ | with_reducible refine s_retN ?_ | with_reducible refine s_ift ?_ | with_reducible refine s_expr ?_ | with_reducible refine s_setI ?_
  | with_reducible apply s_frz | with_reducible apply s_app | with_reducible apply s_ext | with_reducible apply s_aug | with_reducible apply s_appPop | with_reducible apply s_setPop | with_reducible refine s_brk ?_ | with_reducible refine s_cont ?_
  | with_reducible apply w_v | with_reducible refine w_ci ?_ | with_reducible refine w_cs ?_ | with_reducible refine w_cb ?_ | with_reducible refine w_cn ?_
  | with_reducible refine w_bin ?_ | with_reducible refine w_cmp ?_ | with_reducible refine w_call ?_ | with_reducible refine w_bi ?_ | with_reducible refine w_idx ?_ | with_reducible refine w_tup ?_ | with_reducible refine w_lst ?_
  | with_reducible refine w_nil ?_ | with_reducible refine w_cons ?_ | with_reducible apply w_vb | with_reducible refine w_g ?_ | with_reducible refine w_neg ?_ | with_reducible refine w_not ?_ | with_reducible refine w_chain ?_
  | with_reducible refine w_and ?_ | with_reducible refine w_or ?_ | with_reducible refine w_and1 ?_ | with_reducible refine w_or1 ?_ | with_reducible refine w_andC ?_ | with_reducible refine w_orC ?_ | with_reducible refine w_ife ?_
  | with_reducible refine w_slcL ?_ | with_reducible refine w_slcH ?_ | with_reducible refine w_slcB ?_ | with_reducible refine w_rev ?_ | with_reducible refine w_isi ?_ | with_reducible refine w_lenset ?_ | with_reducible refine w_mth ?_ | with_reducible refine w_cv ?_ | with_reducible refine w_dct ?_
  | with_reducible refine w_all0 ?_ | with_reducible refine w_allC ?_ | with_reducible refine w_ie ?_ | with_reducible refine w_enum ?_ | with_reducible refine w_rng1 ?_ | with_reducible refine w_rng2 ?_ | with_reducible refine w_one ?_ | with_reducible refine w_oneIf ?_
  | with_reducible refine o_eqI ?_ | with_reducible refine o_neI ?_ | with_reducible refine o_eqS ?_ | with_reducible refine o_neS ?_ | with_reducible refine o_eqL ?_ | with_reducible refine o_neL ?_
  | (with_reducible refine o_addT ?_ ?_; · (first | omega | (simp only [List.length_append, List.length_cons, List.length_nil, List.length_map, List.length_reverse, List.length_replicate]; omega)))
  | (with_reducible refine o_addL ?_ ?_; · (first | omega | (simp only [List.length_append, List.length_cons, List.length_nil, List.length_map, List.length_reverse, List.length_replicate]; omega)))
  | (with_reducible refine o_addS ?_ ?_; · (first | omega | (simp only [PySem.Str.length_append]; omega)))
  | (with_reducible refine o_slcS ?_ ?_; · (first | omega | (simp only [PySem.Str.length_append]; omega)))
  | (with_reducible refine o_revS ?_ ?_; · (first | omega | (simp only [PySem.Str.length_append]; omega)))
  | (with_reducible refine o_lenS ?_ ?_; · (first | omega | (simp only [PySem.Str.length_append]; omega)))
  | refine O.of rfl ?_ | with_reducible refine Cb.yes ?_ | with_reducible refine Cb.nope ?_ | with_reducible refine Cb.dec ?_ ?_ | refine Mq.mk rfl ?_ | refine Bq.t ?_ | refine Bq.f ?_ | with_reducible refine Bq.dec ?_ ?_ | with_reducible refine Bq.ndec ?_ ?_ | exact Eq.refl _))
theorem cF_neI {a b : List Int} : cmpF .ne (iL a) (iL b) = some (!decide (a = b)) := by
  show (eqF (.lst (a.map .int)) (.lst (b.map .int))).map (!·) = _
  rw [eqF_ints]; rfl
/-- errors of these classes, in this order -/
def ObF : List Str → List D → Prop
  | [], [] => True
  | c :: N, d :: ds => (∃ ns vs, d = .obj c ns vs) ∧ ObF N ds
  | _, _ => False
theorem ObF.each : ∀ {N : List Str} {ds : List D}, ObF N ds → ∀ d ∈ ds, ∃ c ns vs, c ∈ N ∧ d = .obj c ns vs
  | [], [], _, d, h => nomatch h
  | [], _ :: _, h, _, _ => h.elim
  | _ :: _, [], h, _, _ => h.elim
  | c :: N, e :: ds, h, d, hd => by
    rcases List.mem_cons.mp hd with rfl | hd
    · obtain ⟨ns, vs, e⟩ := h.1
      exact ⟨c, ns, vs, List.mem_cons_self, e⟩
    · obtain ⟨c', ns, vs, h1, h2⟩ := h.2.each d hd
      exact ⟨c', ns, vs, List.mem_cons_of_mem _ h1, h2⟩
theorem kind_p {k : Nat} (h : k < 11) : kindsA plainN (plainN[k]?.getD "") = [(k : Int)] ∧ kindsA filledN (plainN[k]?.getD "") = [] ∧ (plainN[k]?.getD "") ∈ errL := by
  have := List.all_eq_true.mp kinds_p k (List.mem_range.mpr h)
  simp only [Bool.and_eq_true, decide_eq_true_eq] at this
  exact ⟨this.1.1, this.1.2, this.2⟩
theorem kind_f {k : Nat} (h : k < 18) : kindsA filledN (filledN[k]?.getD "") = [(k : Int)] ∧ kindsA plainN (filledN[k]?.getD "") = [] ∧ (filledN[k]?.getD "") ∈ errL := by
  have := List.all_eq_true.mp kinds_f k (List.mem_range.mpr h)
  simp only [Bool.and_eq_true, decide_eq_true_eq] at this
  exact ⟨this.1.1, this.1.2, this.2⟩
theorem names_in : (∀ c ∈ plainN, c ∈ errL) ∧ ∀ c ∈ filledN, c ∈ errL := by decide +kernel
theorem loop1 {es os : List D} {a4 a5 : Sl} {g : D} {N : Rho → D → Prop} {T : D → D → Prop} {B C : Rho → D → Prop} (he : ObF plainN es) (q : ∀ s2 s3, N [.val (.lst es), .val (.lst os), s2, s3, a4, a5] g) (a2 a3 : Sl) :
    X (exec l1__law_alone [.val (.lst es), .val (.lst os), a2, a3, a4, a5] g) N T B C := by
  unfold l1__law_alone
  refine s_loop (I := fun xs ρ g1 => g1 = g ∧ ∃ (k : Nat) (r : List D) (s2 s3 : Sl), k ≤ 11 ∧ ObF (plainN.drop k) r ∧ xs = enF k r ∧ ρ = [.val (.lst es), .val (.lst os), s2, s3, a4, a5]) ?_ ?_ ?_
  · refine w_enum (w_v rfl (.of (show enI (.lst es) = some (enF 0 es) by
      show some (enumL _) = _
      rw [enumL_eq]) ?_))
    exact ⟨rfl, 0, es, _, _, Nat.zero_le _, he, rfl, rfl⟩
  · rintro x xs ρ g1 ⟨rfl, k, r, s2, s3, hk, ho, ex, rfl⟩
    cases r with
    | nil => cases ex
    | cons d r =>
    rw [enF] at ex
    injection ex with ex1 ex2
    subst ex1 ex2
    have hlt : k < 11 := by
      refine Classical.byContradiction fun h => ?_
      have : plainN.drop k = [] := List.drop_eq_nil_of_le (by show 11 ≤ k; omega)
      rw [this] at ho; exact ho.elim
    have hd : plainN.drop k = (plainN[k]?.getD "") :: plainN.drop (k + 1) := by
      have h2 : k < plainN.length := hlt
      rw [List.drop_eq_getElem_cons h2, List.getElem?_eq_getElem h2]; rfl
    rw [hd] at ho
    obtain ⟨⟨ns, vs, rfl⟩, ho⟩ := ho
    obtain ⟨k1, k2, k3⟩ := kind_p hlt
    refine .of rfl ?_
    refine s_cons (s_ift (w_or (w_orC (w_cmp (w_call (w_cons (w_v rfl (w_nil (plain_ok k3 (w_lst (w_cons (w_v rfl (w_nil (.of (cF_neI (b := [(k : Int)])) ?_))))))))))))))
    rw [k1]
    refine Bq.ndec (fun h => absurd rfl h) fun _ => w_or1 (w_cmp (w_call (w_cons (w_v rfl (w_nil (filled_ok k3 (w_lst (w_nil (.of (cF_neI (b := [])) ?_)))))))))
    rw [k2]
    refine Bq.ndec (fun h => absurd rfl h) fun _ => s_nil (s_nil ?_)
    exact ⟨rfl, k + 1, r, _, _, hlt, ho, rfl, rfl⟩
  · rintro ρ g1 ⟨rfl, k, r, s2, s3, hk, ho, ex, rfl⟩
    exact q _ _
theorem loop2 {es os : List D} {a4 a5 : Sl} {g : D} {N : Rho → D → Prop} {T : D → D → Prop} {B C : Rho → D → Prop} (he : ObF filledN os) (q : ∀ s2 s3, N [.val (.lst es), .val (.lst os), s2, s3, a4, a5] g) (a2 a3 : Sl) :
    X (exec l2__law_alone [.val (.lst es), .val (.lst os), a2, a3, a4, a5] g) N T B C := by
  unfold l2__law_alone
  refine s_loop (I := fun xs ρ g1 => g1 = g ∧ ∃ (k : Nat) (r : List D) (s2 s3 : Sl), k ≤ 18 ∧ ObF (filledN.drop k) r ∧ xs = enF k r ∧ ρ = [.val (.lst es), .val (.lst os), s2, s3, a4, a5]) ?_ ?_ ?_
  · refine w_enum (w_v rfl (.of (show enI (.lst os) = some (enF 0 os) by
      show some (enumL _) = _
      rw [enumL_eq]) ?_))
    exact ⟨rfl, 0, os, _, _, Nat.zero_le _, he, rfl, rfl⟩
  · rintro x xs ρ g1 ⟨rfl, k, r, s2, s3, hk, ho, ex, rfl⟩
    cases r with
    | nil => cases ex
    | cons d r =>
    rw [enF] at ex
    injection ex with ex1 ex2
    subst ex1 ex2
    have hlt : k < 18 := by
      refine Classical.byContradiction fun h => ?_
      have : filledN.drop k = [] := List.drop_eq_nil_of_le (by show 18 ≤ k; omega)
      rw [this] at ho; exact ho.elim
    have hd : filledN.drop k = (filledN[k]?.getD "") :: filledN.drop (k + 1) := by
      have h2 : k < filledN.length := hlt
      rw [List.drop_eq_getElem_cons h2, List.getElem?_eq_getElem h2]; rfl
    rw [hd] at ho
    obtain ⟨⟨ns, vs, rfl⟩, ho⟩ := ho
    obtain ⟨k1, k2, k3⟩ := kind_f hlt
    refine .of rfl ?_
    refine s_cons (s_ift (w_or (w_orC (w_cmp (w_call (w_cons (w_v rfl (w_nil (filled_ok k3 (w_lst (w_cons (w_v rfl (w_nil (.of (cF_neI (b := [(k : Int)])) ?_))))))))))))))
    rw [k1]
    refine Bq.ndec (fun h => absurd rfl h) fun _ => w_or1 (w_cmp (w_call (w_cons (w_v rfl (w_nil (plain_ok k3 (w_lst (w_nil (.of (cF_neI (b := [])) ?_)))))))))
    rw [k2]
    refine Bq.ndec (fun h => absurd rfl h) fun _ => s_nil (s_nil ?_)
    exact ⟨rfl, k + 1, r, _, _, hlt, ho, rfl, rfl⟩
  · rintro ρ g1 ⟨rfl, k, r, s2, s3, hk, ho, ex, rfl⟩
    exact q _ _
theorem none_left {ds : List D} {x : Str} {f : Str} {ρ : Rho} {g : D} {Q : D → D → Prop} (hk : knownE errL x = true) (hs : ∀ c, subE c x = true) (hd : ∀ d ∈ ds, ∃ c ns vs, c ∈ errL ∧ d = .obj c ns vs) (hl : ds.length ≤ 100) (e : ρ[4]? = some (.val (.lst ds))) (e3 : ∀ d, (ρ.set 3 .un |>.set 3 (.val d))[3]? = some (.val d)) (q : Q (.lst []) g) :
    W (ev (.lc (.one 3) (.e (.v 4)) [.not (.call f (isaS errL x) [.v 3])] (.v 3)) ρ g) Q := by
  refine w_lc (w_ie (w_v e (.of rfl ⟨by omega, ?_⟩)))
  refine w_filter (p := fun _ => false) (fun d hd2 => ?_) (by rw [List.filter_eq_nil_iff.mpr (fun _ _ => Bool.false_ne_true)]; exact q)
  obtain ⟨c, ns, vs, hc, rfl⟩ := hd d hd2
  refine w_oneIf (w_allC (w_not (w_call (w_cons (w_v (e3 _) (w_nil (w_isa hc hk ?_)))))))
  rw [hs c]
  exact .of rfl (Bq.f (Cb.nope ⟨rfl, rfl⟩))
theorem alone_ok {es os : List D} {g : D} {Q : D → D → Prop} (he : ObF plainN es) (ho : ObF filledN os) (le : es.length = 11) (lo : os.length = 18) (q : Q (.bl true) g) : W (s__law_alone [.lst es, .lst os] g) Q := by
  have hall : ∀ d ∈ es ++ os, ∃ c ns vs, c ∈ errL ∧ d = .obj c ns vs := fun d hd => by
    rcases List.mem_append.mp hd with hd | hd
    · obtain ⟨c, ns, vs, h1, h2⟩ := he.each d hd
      exact ⟨c, ns, vs, names_in.1 c h1, h2⟩
    · obtain ⟨c, ns, vs, h1, h2⟩ := ho.each d hd
      exact ⟨c, ns, vs, names_in.2 c h1, h2⟩
  unfold s__law_alone
  refine w_fn rfl ?_
  simp only [b__law_alone, List.map_cons, List.map_nil, List.cons_append, List.nil_append, List.replicate_succ, List.replicate_zero, Nat.reduceSub]
  refine s_cons (loop1 he (fun s2 s3 => ?_) _ _)
  refine s_cons (loop2 ho (fun s2 s3 => ?_) _ _)
  refine s_cons (s_set (w_bin (w_v rfl (w_v rfl (o_addL (by omega) ?_)))))
  simp only [List.set_cons_zero, List.set_cons_succ]
  have hl : (es ++ os).length ≤ 100 := by rw [List.length_append]; omega
  refine s_cons (s_set ?_)
  unfold c3__law_alone
  refine none_left (by decide +kernel) (fun c => by unfold subE; simp) hall hl rfl (fun d => rfl) ?_
  simp only [List.set_cons_zero, List.set_cons_succ]
  refine s_cons (s_ret (w_and (w_andC (w_cmp (w_v rfl (w_lst (w_nil (o_eqL (Bq.dec (fun _ => ?_) fun h => absurd rfl h)))))))))
  refine w_and1 (w_cmp ?_)
  unfold c4__law_alone
  refine none_left (by decide +kernel) (fun c => by unfold subE; simp) hall hl rfl (fun d => rfl) ?_
  refine w_lst (w_nil (o_eqL ?_))
  rw [decide_eq_true rfl]
  exact q
theorem made_ok {x0 x1 x2 x3 x4 x5 x6 x7 x8 x9 x10 x11 x12 x13 x14 x15 x16 x17 g : D} {Q : D → D → Prop} (q : Q (.lst [.lst [.obj "Absent" [(fldC "Absent").getD ""] [x0], .obj "BadCount" [(fldC "BadCount").getD ""] [x1], .obj "BadDay" [(fldC "BadDay").getD ""] [x2], .obj "BadRow" [(fldC "BadRow").getD ""] [x3], .obj "BadRule" [(fldC "BadRule").getD ""] [x4], .obj "BadText" [(fldC "BadText").getD ""] [x5], .obj "BadWish" [(fldC "BadWish").getD ""] [x6], .obj "BadWord" [(fldC "BadWord").getD ""] [x7], .obj "NoCar" [(fldC "NoCar").getD ""] [x8], .obj "NoCount" [(fldC "NoCount").getD ""] [x9], .obj "NoIndex" [(fldC "NoIndex").getD ""] [x10], .obj "NoLane" [(fldC "NoLane").getD ""] [x11], .obj "NoPair" [(fldC "NoPair").getD ""] [x12], .obj "NoVersion" [(fldC "NoVersion").getD ""] [x13], .obj "OtherLanes" [(fldC "OtherLanes").getD ""] [x14], .obj "PassedOver" [(fldC "PassedOver").getD ""] [x15], .obj "Rejected" [(fldC "Rejected").getD ""] [x16], .obj "TooLarge" [(fldC "TooLarge").getD ""] [x17]], .lst [x0, x1, x2, x3, x4, x5, x6, x7, x8, x9, x10, x11, x12, x13, x14, x15, x16, x17]]) g) : W (s__law_made [.lst [x0, x1, x2, x3, x4, x5, x6, x7, x8, x9, x10, x11, x12, x13, x14, x15, x16, x17]] g) Q := by
  unfold s__law_made
  refine w_fn rfl ?_
  simp only [b__law_made, List.map_cons, List.map_nil, List.cons_append, List.nil_append, List.replicate_succ, List.replicate_zero, Nat.reduceSub]
  refine s_cons (s_par (w_cons (w_call (w_cons (w_idx (w_v rfl (w_ci (.of (a := x0) rfl (w_nil (w_new1 (by decide +kernel) (w_cons (w_call (w_cons (w_idx (w_v rfl (w_ci (.of (a := x1) rfl (w_nil (w_new1 (by decide +kernel) (w_cons (w_call (w_cons (w_idx (w_v rfl (w_ci (.of (a := x2) rfl (w_nil (w_new1 (by decide +kernel) (w_nil (.of rfl ?_))))))))))))))))))))))))))))))
  simp only [List.set_cons_zero, List.set_cons_succ]
  refine s_cons (s_par (w_cons (w_call (w_cons (w_idx (w_v rfl (w_ci (.of (a := x3) rfl (w_nil (w_new1 (by decide +kernel) (w_cons (w_call (w_cons (w_idx (w_v rfl (w_ci (.of (a := x4) rfl (w_nil (w_new1 (by decide +kernel) (w_cons (w_call (w_cons (w_idx (w_v rfl (w_ci (.of (a := x5) rfl (w_nil (w_new1 (by decide +kernel) (w_nil (.of rfl ?_))))))))))))))))))))))))))))))
  simp only [List.set_cons_zero, List.set_cons_succ]
  refine s_cons (s_par (w_cons (w_call (w_cons (w_idx (w_v rfl (w_ci (.of (a := x6) rfl (w_nil (w_new1 (by decide +kernel) (w_cons (w_call (w_cons (w_idx (w_v rfl (w_ci (.of (a := x7) rfl (w_nil (w_new1 (by decide +kernel) (w_cons (w_call (w_cons (w_idx (w_v rfl (w_ci (.of (a := x8) rfl (w_nil (w_new1 (by decide +kernel) (w_nil (.of rfl ?_))))))))))))))))))))))))))))))
  simp only [List.set_cons_zero, List.set_cons_succ]
  refine s_cons (s_par (w_cons (w_call (w_cons (w_idx (w_v rfl (w_ci (.of (a := x9) rfl (w_nil (w_new1 (by decide +kernel) (w_cons (w_call (w_cons (w_idx (w_v rfl (w_ci (.of (a := x10) rfl (w_nil (w_new1 (by decide +kernel) (w_cons (w_call (w_cons (w_idx (w_v rfl (w_ci (.of (a := x11) rfl (w_nil (w_new1 (by decide +kernel) (w_nil (.of rfl ?_))))))))))))))))))))))))))))))
  simp only [List.set_cons_zero, List.set_cons_succ]
  refine s_cons (s_par (w_cons (w_call (w_cons (w_idx (w_v rfl (w_ci (.of (a := x12) rfl (w_nil (w_new1 (by decide +kernel) (w_cons (w_call (w_cons (w_idx (w_v rfl (w_ci (.of (a := x13) rfl (w_nil (w_new1 (by decide +kernel) (w_cons (w_call (w_cons (w_idx (w_v rfl (w_ci (.of (a := x14) rfl (w_nil (w_new1 (by decide +kernel) (w_nil (.of rfl ?_))))))))))))))))))))))))))))))
  simp only [List.set_cons_zero, List.set_cons_succ]
  refine s_cons (s_par (w_cons (w_call (w_cons (w_idx (w_v rfl (w_ci (.of (a := x15) rfl (w_nil (w_new1 (by decide +kernel) (w_cons (w_call (w_cons (w_idx (w_v rfl (w_ci (.of (a := x16) rfl (w_nil (w_new1 (by decide +kernel) (w_nil (.of rfl ?_)))))))))))))))))))))
  simp only [List.set_cons_zero, List.set_cons_succ]
  refine s_cons (s_set (w_call (w_cons (w_idx (w_v rfl (w_ci (.of (a := x17) rfl (w_nil (w_new1 (by decide +kernel) ?_)))))))))
  simp only [List.set_cons_zero, List.set_cons_succ]
  refine s_cons (s_set (w_lst (w_cons (w_call (w_cons (w_v rfl (w_nil (w_fld (fl := "car") (by decide +kernel) (by decide +kernel) (w_cons (w_call (w_cons (w_v rfl (w_nil (w_fld (fl := "index") (by decide +kernel) (by decide +kernel) (w_cons (w_call (w_cons (w_v rfl (w_nil (w_fld (fl := "index") (by decide +kernel) (by decide +kernel) (w_cons (w_call (w_cons (w_v rfl (w_nil (w_fld (fl := "error") (by decide +kernel) (by decide +kernel) (w_cons (w_call (w_cons (w_v rfl (w_nil (w_fld (fl := "error") (by decide +kernel) (by decide +kernel) (w_cons (w_call (w_cons (w_v rfl (w_nil (w_fld (fl := "index") (by decide +kernel) (by decide +kernel) (w_cons (w_call (w_cons (w_v rfl (w_nil (w_fld (fl := "index") (by decide +kernel) (by decide +kernel) (w_cons (w_call (w_cons (w_v rfl (w_nil (w_fld (fl := "error") (by decide +kernel) (by decide +kernel) (w_nil ?_)))))))))))))))))))))))))))))))))))))))))))))))))))
  simp only [List.set_cons_zero, List.set_cons_succ]
  refine s_cons (s_set (w_bin (w_v rfl (w_lst (w_cons (w_call (w_cons (w_v rfl (w_nil (w_fld (fl := "value") (by decide +kernel) (by decide +kernel) (w_cons (w_call (w_cons (w_v rfl (w_nil (w_fld (fl := "value") (by decide +kernel) (by decide +kernel) (w_cons (w_call (w_cons (w_v rfl (w_nil (w_fld (fl := "index") (by decide +kernel) (by decide +kernel) (w_cons (w_call (w_cons (w_v rfl (w_nil (w_fld (fl := "value") (by decide +kernel) (by decide +kernel) (w_cons (w_call (w_cons (w_v rfl (w_nil (w_fld (fl := "value") (by decide +kernel) (by decide +kernel) (w_cons (w_call (w_cons (w_v rfl (w_nil (w_fld (fl := "version") (by decide +kernel) (by decide +kernel) (w_cons (w_call (w_cons (w_v rfl (w_nil (w_fld (fl := "count") (by decide +kernel) (by decide +kernel) (w_nil (o_addL (by simp) ?_))))))))))))))))))))))))))))))))))))))))))))))))
  simp only [List.set_cons_zero, List.set_cons_succ]
  refine s_cons (s_set (w_bin (w_v rfl (w_lst (w_cons (w_call (w_cons (w_v rfl (w_nil (w_fld (fl := "lane") (by decide +kernel) (by decide +kernel) (w_cons (w_call (w_cons (w_v rfl (w_nil (w_fld (fl := "index") (by decide +kernel) (by decide +kernel) (w_cons (w_call (w_cons (w_v rfl (w_nil (w_fld (fl := "limit") (by decide +kernel) (by decide +kernel) (w_nil (o_addL (by simp) ?_))))))))))))))))))))))))
  simp only [List.set_cons_zero, List.set_cons_succ]
  refine s_cons (s_set (w_lst (w_cons (w_v rfl (w_cons (w_v rfl (w_cons (w_v rfl (w_cons (w_v rfl (w_cons (w_v rfl (w_cons (w_v rfl (w_cons (w_v rfl (w_cons (w_v rfl (w_cons (w_v rfl (w_cons (w_v rfl (w_cons (w_v rfl (w_cons (w_v rfl (w_cons (w_v rfl (w_cons (w_v rfl (w_cons (w_v rfl (w_cons (w_v rfl (w_nil ?_)))))))))))))))))))))))))))))))))))
  simp only [List.set_cons_zero, List.set_cons_succ]
  refine s_cons (s_ret (w_lst (w_cons (w_bin (w_v rfl (w_lst (w_cons (w_v rfl (w_cons (w_v rfl (w_nil (o_addL (by simp) (w_cons (w_v rfl (w_nil ?_)))))))))))))))
  exact q
end PyI

set_option maxRecDepth 100000
set_option maxHeartbeats 0
namespace PyI
open PySem PySem.Spec PyProof.Rows L2 TL
local macro_rules | `(tactic| and_intros) => `(tactic| repeat' (first
  | (with_reducible apply x_norm; · (simp only [List.set_cons_zero, List.set_cons_succ]; rfl))
  | with_reducible refine s_cons ?_ | with_reducible refine s_nil ?_
  | with_reducible refine s_set ?_ | with_reducible refine s_setO ?_ | with_reducible refine s_par ?_ | with_reducible refine s_unp ?_ | with_reducible refine s_ret ?_ | with_reducible refine s_retN ?_ | with_reducible refine s_ift ?_ | with_reducible refine s_expr ?_ | with_reducible refine s_setI ?_
  | with_reducible apply s_frz | with_reducible apply s_app | with_reducible apply s_ext | with_reducible apply s_aug | with_reducible apply s_appPop | with_reducible apply s_setPop | with_reducible refine s_brk ?_ | with_reducible refine s_cont ?_
  | with_reducible apply w_v | with_reducible refine w_ci ?_ | with_reducible refine w_cs ?_ | with_reducible refine w_cb ?_ | with_reducible refine w_cn ?_
  | with_reducible refine w_bin ?_ | with_reducible refine w_cmp ?_ | with_reducible refine w_call ?_ | with_reducible refine w_bi ?_ | with_reducible refine w_idx ?_ | with_reducible refine w_tup ?_ | with_reducible refine w_lst ?_
  | with_reducible refine w_nil ?_ | with_reducible refine w_cons ?_ | with_reducible apply w_vb | with_reducible refine w_g ?_ | with_reducible refine w_neg ?_ | with_reducible refine w_not ?_ | with_reducible refine w_chain ?_
  | with_reducible refine w_and ?_ | with_reducible refine w_or ?_ | with_reducible refine w_and1 ?_ | with_reducible refine w_or1 ?_ | with_reducible refine w_andC ?_ | with_reducible refine w_orC ?_ | with_reducible refine w_ife ?_
  | with_reducible refine w_slcL ?_ | with_reducible refine w_slcH ?_ | with_reducible refine w_slcB ?_ | with_reducible refine w_rev ?_ | with_reducible refine w_isi ?_ | with_reducible refine w_lenset ?_ | with_reducible refine w_mth ?_ | with_reducible refine w_cv ?_ | with_reducible refine w_dct ?_
  | with_reducible refine w_all0 ?_ | with_reducible refine w_allC ?_ | with_reducible refine w_ie ?_ | with_reducible refine w_enum ?_ | with_reducible refine w_rng1 ?_ | with_reducible refine w_rng2 ?_ | with_reducible refine w_one ?_ | with_reducible refine w_oneIf ?_
  | with_reducible refine o_eqI ?_ | with_reducible refine o_neI ?_ | with_reducible refine o_eqS ?_ | with_reducible refine o_neS ?_ | with_reducible refine o_eqL ?_ | with_reducible refine o_neL ?_
  | (with_reducible refine o_addT ?_ ?_; · (first | omega | (simp only [List.length_append, List.length_cons, List.length_nil, List.length_map, List.length_reverse, List.length_replicate]; omega)))
  | (with_reducible refine o_addL ?_ ?_; · (first | omega | (simp only [List.length_append, List.length_cons, List.length_nil, List.length_map, List.length_reverse, List.length_replicate]; omega)))
  | (with_reducible refine o_addS ?_ ?_; · (first | omega | (simp only [PySem.Str.length_append]; omega)))
  | (with_reducible refine o_slcS ?_ ?_; · (first | omega | (simp only [PySem.Str.length_append]; omega)))
  | (with_reducible refine o_revS ?_ ?_; · (first | omega | (simp only [PySem.Str.length_append]; omega)))
  | (with_reducible refine o_lenS ?_ ?_; · (first | omega | (simp only [PySem.Str.length_append]; omega)))
  | refine O.of rfl ?_ | with_reducible refine Cb.yes ?_ | with_reducible refine Cb.nope ?_ | with_reducible refine Cb.dec ?_ ?_ | refine Mq.mk rfl ?_ | refine Bq.t ?_ | refine Bq.f ?_ | with_reducible refine Bq.dec ?_ ?_ | with_reducible refine Bq.ndec ?_ ?_ | exact Eq.refl _))
theorem law_ok {h : Nat} {g : D} (hg : Hd 0 g) : ∃ g', execs b_law (.un :: .val (.han h) :: List.replicate 5 .un) g = .rt (.bl true) g' := by
  refine X.rtT ?_
  simp only [b_law, List.replicate_succ, List.replicate_zero, Nat.reduceSub]
  refine s_cons (s_set ?_)
  unfold c1_law
  have h18 : (rngL 0 (Int.toNat 18)).length = 18 := rfl
  refine w_lc (w_rng1 (w_ci (.of rfl ⟨rfl, ?_⟩)))
  refine ⟨by rw [h18]; omega, ?_⟩
  refine w_drawH (P := fun d => Nice 1000 3 d) (c := 1) hg (by rw [h18]; omega) (fun y _ j g hj hcj => ?_) fun ys g1 hyl hy h1 => ?_
  · exact w_one (w_call (w_cons (w_v rfl (w_nil (odd_ok hj (by omega) fun d g2 hd h2 => ⟨⟨d, rfl, hd⟩, h2⟩)))))
  rw [h18] at hyl
  match ys, hyl, hy with
  | [x0, x1, x2, x3, x4, x5, x6, x7, x8, x9, x10, x11, x12, x13, x14, x15, x16, x17], _, hy =>
  simp only [List.set_cons_zero, List.set_cons_succ]
  have hn : Nice 20000 4 (.lst [x0, x1, x2, x3, x4, x5, x6, x7, x8, x9, x10, x11, x12, x13, x14, x15, x16, x17]) := (niceLN (L := 18) hy (by simp)).mono (by omega) (by omega)
  refine s_cons (s_unp (w_call (w_cons (w_v rfl (w_nil (made_ok (.of rfl ?_)))))))
  simp only [setAll, wipeE, List.set_cons_zero, List.set_cons_succ]
  refine s_cons (s_set (w_lst (w_cons (w_call (w_nil (w_new0 (by decide +kernel) (w_cons (w_call (w_nil (w_new0 (by decide +kernel) (w_cons (w_call (w_nil (w_new0 (by decide +kernel) (w_cons (w_call (w_nil (w_new0 (by decide +kernel) (w_cons (w_call (w_nil (w_new0 (by decide +kernel) (w_cons (w_call (w_nil (w_new0 (by decide +kernel) (w_cons (w_call (w_nil (w_new0 (by decide +kernel) (w_cons (w_call (w_nil (w_new0 (by decide +kernel) (w_nil ?_)))))))))))))))))))))))))))))))))))
  simp only [List.set_cons_zero, List.set_cons_succ]
  refine s_cons (s_set (w_bin (w_v rfl (w_lst (w_cons (w_call (w_nil (w_new0 (by decide +kernel) (w_cons (w_call (w_nil (w_new0 (by decide +kernel) (w_cons (w_call (w_nil (w_new0 (by decide +kernel) (w_nil (o_addL (by simp) ?_))))))))))))))))))
  simp only [List.set_cons_zero, List.set_cons_succ]
  refine s_cons (s_ift (w_or (w_orC (w_cmp (w_bi (w_cons (w_v rfl (w_nil (o_repr hn (by omega) (by omega) (w_bi (w_cons (w_v rfl (w_nil (o_repr hn (by omega) (by omega) (o_neS (Bq.ndec (fun h => absurd rfl h) fun _ => ?_))))))))))))))))
  refine w_or1 (w_not (w_call (w_cons (w_v rfl (w_cons (w_v rfl (w_nil (alone_ok ?_ ?_ rfl rfl (.of rfl (Bq.f (s_nil ?_)))))))))))
  · simp only [ObF, plainN, List.cons_append, List.nil_append]
    exact ⟨⟨_, _, rfl⟩, ⟨_, _, rfl⟩, ⟨_, _, rfl⟩, ⟨_, _, rfl⟩, ⟨_, _, rfl⟩, ⟨_, _, rfl⟩, ⟨_, _, rfl⟩, ⟨_, _, rfl⟩, ⟨_, _, rfl⟩, ⟨_, _, rfl⟩, ⟨_, _, rfl⟩, trivial⟩
  · simp only [ObF, filledN]
    exact ⟨⟨_, _, rfl⟩, ⟨_, _, rfl⟩, ⟨_, _, rfl⟩, ⟨_, _, rfl⟩, ⟨_, _, rfl⟩, ⟨_, _, rfl⟩, ⟨_, _, rfl⟩, ⟨_, _, rfl⟩, ⟨_, _, rfl⟩, ⟨_, _, rfl⟩, ⟨_, _, rfl⟩, ⟨_, _, rfl⟩, ⟨_, _, rfl⟩, ⟨_, _, rfl⟩, ⟨_, _, rfl⟩, ⟨_, _, rfl⟩, ⟨_, _, rfl⟩, ⟨_, _, rfl⟩, trivial⟩
  have hc : Nice 20000 4 (.lst [.int 20, .int 30, .int 40, .int 6, .int 8]) := Nice.ofB (by decide +kernel)
  refine s_cons (s_ret (w_cmp (w_bi (w_cons (w_lst (w_cons (w_g (w_cons (w_g (w_cons (w_g (w_cons (w_g (w_cons (w_g (w_nil (w_nil (o_repr (d := .lst [.int 20, .int 30, .int 40, .int 6, .int 8]) hc (by omega) (by omega) ?_))))))))))))))))))
  refine w_bi (w_cons (w_lst (w_cons (w_ci (w_cons (w_ci (w_cons (w_ci (w_cons (w_ci (w_cons (w_ci (w_nil (w_nil (o_repr hc (by omega) (by omega) (o_eqS ?_))))))))))))))))
  rw [decide_eq_true rfl]
end PyI

set_option maxRecDepth 100000
namespace PyI
open PySem PySem.Spec PyProof.Rows L2
local macro_rules | `(tactic| and_intros) => `(tactic| repeat' (first
  | (with_reducible apply x_norm; · (simp only [List.set_cons_zero, List.set_cons_succ]; rfl))
  | with_reducible refine s_cons ?_ | with_reducible refine s_nil ?_
  | with_reducible refine s_set ?_ | with_reducible refine s_setO ?_ | with_reducible refine s_par ?_ | with_reducible refine s_unp ?_ | with_reducible refine s_ret ?_ | with_reducible refine s_retN ?_ | with_reducible refine s_ift ?_ | with_reducible refine s_expr ?_ | with_reducible refine s_setI ?_
  | with_reducible apply s_frz | with_reducible apply s_app | with_reducible apply s_ext | with_reducible apply s_aug | with_reducible apply s_appPop | with_reducible apply s_setPop | with_reducible refine s_brk ?_ | with_reducible refine s_cont ?_
  | with_reducible apply w_v | with_reducible refine w_ci ?_ | with_reducible refine w_cs ?_ | with_reducible refine w_cb ?_ | with_reducible refine w_cn ?_
  | with_reducible refine w_bin ?_ | with_reducible refine w_cmp ?_ | with_reducible refine w_call ?_ | with_reducible refine w_bi ?_ | with_reducible refine w_idx ?_ | with_reducible refine w_tup ?_ | with_reducible refine w_lst ?_
  | with_reducible refine w_nil ?_ | with_reducible refine w_cons ?_ | with_reducible apply w_vb | with_reducible refine w_g ?_ | with_reducible refine w_neg ?_ | with_reducible refine w_not ?_ | with_reducible refine w_chain ?_
  | with_reducible refine w_and ?_ | with_reducible refine w_or ?_ | with_reducible refine w_and1 ?_ | with_reducible refine w_or1 ?_ | with_reducible refine w_andC ?_ | with_reducible refine w_orC ?_ | with_reducible refine w_ife ?_
  | with_reducible refine w_slcL ?_ | with_reducible refine w_slcH ?_ | with_reducible refine w_slcB ?_ | with_reducible refine w_rev ?_ | with_reducible refine w_isi ?_ | with_reducible refine w_lenset ?_ | with_reducible refine w_mth ?_ | with_reducible refine w_cv ?_ | with_reducible refine w_dct ?_
  | with_reducible refine w_all0 ?_ | with_reducible refine w_allC ?_ | with_reducible refine w_ie ?_ | with_reducible refine w_enum ?_ | with_reducible refine w_rng1 ?_ | with_reducible refine w_rng2 ?_ | with_reducible refine w_one ?_ | with_reducible refine w_oneIf ?_
  | with_reducible refine o_eqI ?_ | with_reducible refine o_neI ?_ | with_reducible refine o_eqS ?_ | with_reducible refine o_neS ?_ | with_reducible refine o_eqL ?_ | with_reducible refine o_neL ?_
  | (with_reducible refine o_addT ?_ ?_; · (first | omega | (simp only [List.length_append, List.length_cons, List.length_nil, List.length_map, List.length_reverse, List.length_replicate]; omega)))
  | (with_reducible refine o_addL ?_ ?_; · (first | omega | (simp only [List.length_append, List.length_cons, List.length_nil, List.length_map, List.length_reverse, List.length_replicate]; omega)))
  | refine O.of rfl ?_ | with_reducible refine Cb.yes ?_ | with_reducible refine Cb.nope ?_ | with_reducible refine Cb.dec ?_ ?_ | refine Mq.mk rfl ?_ | refine Bq.t ?_ | refine Bq.f ?_ | with_reducible refine Bq.dec ?_ ?_ | with_reducible refine Bq.ndec ?_ ?_ | exact Eq.refl _))
theorem X.nxT {r : Rs} {N : Rho → D → Prop} (h : X r N (fun _ _ => False) no2 no2) : ∃ ρ g, r = .nx ρ g ∧ N ρ g := by
  have h := h.ok
  cases r with
  | nx ρ g => exact ⟨ρ, g, rfl, h⟩
  | rt d g => exact h.elim
  | bk ρ g => exact h.elim
  | ct ρ g => exact h.elim
  | ex c fs g => exact h.elim
  | no => exact h.elim
def canR (_ dp al : List Int) : Prop := al ≠ [] ∧ dp.length ≤ 100
theorem cF_ge {i j : Int} : cmpF .ge (.int i) (.int j) = some (decide (j ≤ i)) := rfl
theorem opened_sem (ns : List Int) (hl : ns.length ≤ 63) : ∃ (ρ1 : Rho) (dp al : List Int), canR ns dp al ∧ exec (.set 1 c1__law_opened) (.val (.scr ns) :: List.replicate (n__law_opened.length - 1) .un) .non = .nx ρ1 .non ∧
    ev c2__law_opened ρ1 .non = .ok (.lst (dp.map .int)) .non ∧ ev (.bin .add (.v 1) (.bin .mul (.lst [.c (.int 61)]) (.bi .int [.cmp .eq (.v 1) (.lst [])]))) ρ1 .non = .ok (.lst (al.map .int)) .non := by
  have hc : (cutG ns none (some 63)).length ≤ 63 := Nat.le_trans cut_len hl
  have hcm : ((cutG ns none (some 63)).map D.int).length = (cutG ns none (some 63)).length := List.length_map ..
  generalize hcs : ((cutG ns none (some 63)).map fun i : Int => if i < 0 then -i else i) = cs
  have hcl : cs.length ≤ 63 := by rw [← hcs, List.length_map]; exact hc
  have hcl2 : (cs.map D.int).length ≤ 63 := by rw [List.length_map]; exact hcl
  have a1 : X (exec (.set 1 c1__law_opened) [.val (.scr ns), .un, .un] .non) (fun ρ g => ρ = [.val (.scr ns), .val (.lst (cs.map .int)), .un] ∧ g = .non) (fun _ _ => False) no2 no2 := by
    refine s_set ?_
    unfold c1__law_opened
    refine w_lc ?_
    and_intros
    refine ⟨by omega, ?_⟩
    refine w_mapE (f := fun i => .int (if i < 0 then -i else i)) (fun i hi => ?_) ?_
    · and_intros
      exact ⟨rfl, rfl⟩
    refine ⟨?_, rfl⟩
    rw [← hcs, List.map_map]; rfl
  obtain ⟨ρ1, g1, e1, rfl, rfl⟩ := a1.nxT
  have a2 : W (ev c2__law_opened [.val (.scr ns), .val (.lst (cs.map .int)), .un] .non) fun d g => d = .lst ((cs.filter fun i => decide ((10 : Int) ^ 18 ≤ i)).map .int) ∧ g = .non := by
    unfold c2__law_opened
    refine w_lc ?_
    and_intros
    refine ⟨by omega, ?_⟩
    refine w_filterE (p := fun i => decide ((10 : Int) ^ 18 ≤ i)) (fun i hi => ?_) ?_
    · and_intros
      · intro h
        and_intros
        exact ⟨by rw [if_pos (decide_eq_true (show (10 : Int) ^ 18 ≤ i from h))], rfl⟩
      · intro h
        and_intros
        exact ⟨by rw [if_neg (by rw [decide_eq_true_eq]; exact h)], rfl⟩
    exact ⟨rfl, rfl⟩
  obtain ⟨d2, g2, e2, rfl, rfl⟩ := a2.ok
  have hfl := List.length_filter_le (fun i => decide ((10 : Int) ^ 18 ≤ i)) cs
  have a3 : W (ev (.bin .add (.v 1) (.bin .mul (.lst [.c (.int 61)]) (.bi .int [.cmp .eq (.v 1) (.lst [])]))) [.val (.scr ns), .val (.lst (cs.map .int)), .un] .non) fun d g => (∃ al : List Int, al ≠ [] ∧ d = .lst (al.map .int)) ∧ g = .non := by
    and_intros
    refine O.of bF_mulL31 ?_
    by_cases hz : cs = []
    · subst hz
      and_intros
      exact ⟨⟨[61], by simp, rfl⟩, rfl⟩
    · have hd : decide (cs.map D.int = []) = false := decide_eq_false (by simpa using hz)
      rw [hd, if_neg Bool.false_ne_true]
      and_intros
      exact ⟨⟨cs, hz, by rw [List.append_nil]⟩, rfl⟩
  obtain ⟨d3, g3, e3, ⟨al, ha, rfl⟩, rfl⟩ := a3.ok
  exact ⟨_, _, al, ⟨ha, by omega⟩, e1, e2, e3⟩
theorem k_opened {P : Program} {w : World} {K : PySem.W.Frag} {mg : Str → Option Value} {base : Heap} {a : Addr} {fd : FuncData} (F : Fun K "_law_opened" "_law_opened" t__law_opened a fd) (hbt : ∀ x ∈ biNames, mg x = none) : FnG P w K mg base 1 a fd ["_law_script"] (spCan K 63 canR) :=
  opened_of (keys := _) (xs := _) canR F sc__law_opened rfl (by decide +kernel) (by decide +kernel) (by decide +kernel) rfl rfl rfl (by decide) hbt (by
    simp only [c1__law_opened, c2__law_opened, allS, allE, allEs, allO, allI, and_true, true_and, and_self]) opened_sem
theorem ok_law3 {P : Program} {w : World} {K : PySem.W.Frag} {mg : Str → Option Value} {base : Heap} {a : Addr} {fd : FuncData} (DF : Defs K mg) (F : Fun K "law" "law" t_law a fd) : FnG P w K mg base 4 a fd ["_law_script"] (spLaw K 63) := by
  obtain ⟨a1, fd1, F1, hm, hb⟩ := DF.d__law_opened
  refine law_of3 (f := "_law_opened") (y := "_law_script") (z := "_law_can") F sc_law rfl rfl (by decide +kernel) (by decide +kernel) (by decide +kernel) look_rest (by decide) DF.bt ((k_opened F1 DF.bt).mono (by decide)) hm F1.kp hb (fun C _ _ => all_law DF C) ?_
  intro ns dp al hl hR
  exact law_ok ⟨dp, al, 0, rfl, hR.1, hR.2, by omega, by omega⟩
end PyI

set_option maxRecDepth 100000
namespace PyI
open PySem PySem.Spec PyProof.Rows L2
open PySem PySem.W PyProof.Rows in
theorem walk {l : PySem.W.OpenLaw} {q : Program} {loose : List Str} {XP : (Str → Option Value) → Heap → Prop} {YP : World → Heap → Prop} {d : DefRec} {K : Params → PySem.W.Frag} (hn : l.most = some 63) (hdf : d.params.defaults = [])
    (hY : ∀ (w : World) (h : Heap), YP w h → (K w.params).In h) (hd : d.name = "law") (F : ∀ (w : World) (mg : Str → Option Value) (h : Heap), (K w.params).In h → h.Ns mainGlobals mg → Defs (K w.params) mg) :
    PySem.W.WalkO q loose XP YP l.row.toRowW d [] (fun f vs => PySem.call f vs) := by
  refine walkG (n := 63) (k := 4) (x := "_law_script") (sp := fun w => spLaw (K w.params) 63) hn (by decide) hdf ⟨rfl, by decide, by decide⟩ hY ?_ ?_
  · intro w mg fa h KX Gn hmg
    obtain ⟨a, fd, Fl, hm, hb⟩ := (F w mg h KX Gn).d_law
    rw [hd, hm] at hmg
    cases hmg
    refine ⟨fd, ?_, fun base _ _ => ok_law3 (F w mg h KX Gn) Fl⟩
    obtain ⟨oc, od, kV, doc, pm, an, cdv, ct, osl, rfl, lk, hcd⟩ := Fl.ex
    exact fun s u => .of_eq rfl
  · intro w H a ns hl _ hS
    exact ⟨a, ns, rfl, hS, hl, fun _ => rfl⟩
end PyI
open PySem PySem.W PyProof.Rows
set_option maxRecDepth 100000 in
set_option maxHeartbeats 0 in
theorem PySem.Challenge.cw_lanerules_k01_limits_and_errors_holds : PySem.Challenge.rw_lanerules_k01_limits_and_errors.Holds := by
  w_on; o_law; k_head; (case hw => w_witness2)
  k_fill
  refine PyI.walk (l := PySem.Challenge.rw_lanerules_k01_limits_and_errors) rfl rfl (fun w h Y => PySem.W.kIn_of Y) rfl ?F
  case F =>
    intro w mg h KX Gn
    refine' PyI.all_mk KX Gn ?a0 ?l0 ?c0 ?k0 ?a1 ?l1 ?c1 ?k1 ?a2 ?l2 ?c2 ?k2 ?a3 ?l3 ?c3 ?k3 ?a4 ?l4 ?c4 ?k4 ?a5 ?l5 ?c5 ?k5 ?a6 ?l6 ?c6 ?k6 ?a7 ?l7 ?c7 ?k7 ?a8 ?l8 ?c8 ?k8 ?hP ?eT ?ea0 ?ex0 ?eb0 ?es0 ?eg0 ?eh0 ?en0 ?ei0 ?ej0 ?el0 ?ec0 ?ek0 ?ee0 ?et0 ?ey0 ?ea1 ?ex1 ?ek1 ?ee1 ?et1 ?ea2 ?ex2 ?eb2 ?es2 ?eg2 ?eh2 ?en2 ?ei2 ?ej2 ?el2 ?ec2 ?ek2 ?ee2 ?et2 ?ey2 ?ea3 ?ex3 ?eb3 ?es3 ?eg3 ?eh3 ?en3 ?ei3 ?ej3 ?el3 ?ec3 ?ek3 ?ee3 ?et3 ?ey3 ?ea4 ?ex4 ?eb4 ?es4 ?eg4 ?eh4 ?en4 ?ei4 ?ej4 ?el4 ?ec4 ?ek4 ?ee4 ?et4 ?ey4 ?ea5 ?ex5 ?eb5 ?es5 ?eg5 ?eh5 ?en5 ?ei5 ?ej5 ?el5 ?ec5 ?ek5 ?ee5 ?et5 ?ey5 ?ea6 ?ex6 ?eb6 ?es6 ?eg6 ?eh6 ?en6 ?ei6 ?ej6 ?el6 ?ec6 ?ek6 ?ee6 ?et6 ?ey6 ?ea7 ?ex7 ?eb7 ?es7 ?eg7 ?eh7 ?en7 ?ei7 ?ej7 ?el7 ?ec7 ?ek7 ?ee7 ?et7 ?ey7 ?ea8 ?ex8 ?eb8 ?es8 ?eg8 ?eh8 ?en8 ?ei8 ?ej8 ?el8 ?ec8 ?ek8 ?ee8 ?et8 ?ey8 ?ea9 ?ex9 ?ek9 ?ee9 ?et9 ?ea10 ?ex10 ?ek10 ?ee10 ?et10 ?ea11 ?ex11 ?ek11 ?ee11 ?et11 ?ea12 ?ex12 ?eb12 ?es12 ?eg12 ?eh12 ?en12 ?ei12 ?ej12 ?el12 ?ec12 ?ek12 ?ee12 ?et12 ?ey12 ?ea13 ?ex13 ?eb13 ?es13 ?eg13 ?eh13 ?en13 ?ei13 ?ej13 ?el13 ?ec13 ?ek13 ?ee13 ?et13 ?ey13 ?ea14 ?ex14 ?ek14 ?ee14 ?et14 ?ea15 ?ex15 ?eb15 ?es15 ?eg15 ?eh15 ?en15 ?ei15 ?ej15 ?el15 ?ec15 ?ek15 ?ee15 ?et15 ?ey15 ?ea16 ?ex16 ?eb16 ?es16 ?eg16 ?eh16 ?en16 ?ei16 ?ej16 ?el16 ?ec16 ?ek16 ?ee16 ?et16 ?ey16 ?ea17 ?ex17 ?ek17 ?ee17 ?et17 ?ea18 ?ex18 ?eb18 ?es18 ?eg18 ?eh18 ?en18 ?ei18 ?ej18 ?el18 ?ec18 ?ek18 ?ee18 ?et18 ?ey18 ?ea19 ?ex19 ?ek19 ?ee19 ?et19 ?ea20 ?ex20 ?ek20 ?ee20 ?et20 ?ea21 ?ex21 ?eb21 ?es21 ?eg21 ?eh21 ?en21 ?ei21 ?ej21 ?el21 ?ec21 ?ek21 ?ee21 ?et21 ?ey21 ?ea22 ?ex22 ?ek22 ?ee22 ?et22 ?ea23 ?ex23 ?eb23 ?es23 ?eg23 ?eh23 ?en23 ?ei23 ?ej23 ?el23 ?ec23 ?ek23 ?ee23 ?et23 ?ey23 ?ea24 ?ex24 ?ek24 ?ee24 ?et24 ?ea25 ?ex25 ?eb25 ?es25 ?eg25 ?eh25 ?en25 ?ei25 ?ej25 ?el25 ?ec25 ?ek25 ?ee25 ?et25 ?ey25 ?ea26 ?ex26 ?eb26 ?es26 ?eg26 ?eh26 ?en26 ?ei26 ?ej26 ?el26 ?ec26 ?ek26 ?ee26 ?et26 ?ey26 ?ea27 ?ex27 ?eb27 ?es27 ?eg27 ?eh27 ?en27 ?ei27 ?ej27 ?el27 ?ec27 ?ek27 ?ee27 ?et27 ?ey27 ?ea28 ?ex28 ?ek28 ?ee28 ?et28 ?y0 ?y1 ?y2 ?y3 ?y4 ?z0 ?z1 ?z2 ?z3 ?z4 ?z5 ?z6 ?z7 ?z8 ?z9 ?z10 ?z11 ?z12 ?z13 ?z14 ?z15 ?z16 ?z17 ?z18 ?z19 ?z20
    (case a0 => k_is)
    (case l0 => k_is)
    (case c0 => k_is)
    (case k0 => k_is)
    (case a1 => k_is)
    (case l1 => k_is)
    (case c1 => k_is)
    (case k1 => k_is)
    (case a2 => k_is)
    (case l2 => k_is)
    (case c2 => k_is)
    (case k2 => k_is)
    (case a3 => k_is)
    (case l3 => k_is)
    (case c3 => k_is)
    (case k3 => k_is)
    (case a4 => k_is)
    (case l4 => k_is)
    (case c4 => k_is)
    (case k4 => k_is)
    (case a5 => k_is)
    (case l5 => k_is)
    (case c5 => k_is)
    (case k5 => k_is)
    (case a6 => k_is)
    (case l6 => k_is)
    (case c6 => k_is)
    (case k6 => k_is)
    (case a7 => k_is)
    (case l7 => k_is)
    (case c7 => k_is)
    (case k7 => k_is)
    (case a8 => k_is)
    (case l8 => k_is)
    (case c8 => k_is)
    (case k8 => k_is)
    (case hP => k_is)
    (case eT => kernel_rfl)
    (case ea0 => k_is)
    (case ex0 => k_is)
    (case eb0 => decide +kernel)
    (case es0 => k_is)
    (case eg0 => k_is)
    (case eh0 => k_is)
    (case en0 => k_is)
    (case ei0 => k_is)
    (case ej0 => k_is)
    (case el0 => k_is)
    (case ec0 => k_is)
    (case ek0 => k_is)
    (case ee0 => k_is)
    (case et0 => k_is)
    (case ey0 => k_is)
    (case ea1 => k_is)
    (case ex1 => k_exc)
    (case ek1 => k_is)
    (case ee1 => k_is)
    (case et1 => k_is)
    (case ea2 => k_is)
    (case ex2 => k_is)
    (case eb2 => decide +kernel)
    (case es2 => k_is)
    (case eg2 => k_is)
    (case eh2 => k_is)
    (case en2 => k_is)
    (case ei2 => k_is)
    (case ej2 => k_is)
    (case el2 => k_is)
    (case ec2 => k_is)
    (case ek2 => k_is)
    (case ee2 => k_is)
    (case et2 => k_is)
    (case ey2 => k_is)
    (case ea3 => k_is)
    (case ex3 => k_is)
    (case eb3 => decide +kernel)
    (case es3 => k_is)
    (case eg3 => k_is)
    (case eh3 => k_is)
    (case en3 => k_is)
    (case ei3 => k_is)
    (case ej3 => k_is)
    (case el3 => k_is)
    (case ec3 => k_is)
    (case ek3 => k_is)
    (case ee3 => k_is)
    (case et3 => k_is)
    (case ey3 => k_is)
    (case ea4 => k_is)
    (case ex4 => k_is)
    (case eb4 => decide +kernel)
    (case es4 => k_is)
    (case eg4 => k_is)
    (case eh4 => k_is)
    (case en4 => k_is)
    (case ei4 => k_is)
    (case ej4 => k_is)
    (case el4 => k_is)
    (case ec4 => k_is)
    (case ek4 => k_is)
    (case ee4 => k_is)
    (case et4 => k_is)
    (case ey4 => k_is)
    (case ea5 => k_is)
    (case ex5 => k_is)
    (case eb5 => decide +kernel)
    (case es5 => k_is)
    (case eg5 => k_is)
    (case eh5 => k_is)
    (case en5 => k_is)
    (case ei5 => k_is)
    (case ej5 => k_is)
    (case el5 => k_is)
    (case ec5 => k_is)
    (case ek5 => k_is)
    (case ee5 => k_is)
    (case et5 => k_is)
    (case ey5 => k_is)
    (case ea6 => k_is)
    (case ex6 => k_is)
    (case eb6 => decide +kernel)
    (case es6 => k_is)
    (case eg6 => k_is)
    (case eh6 => k_is)
    (case en6 => k_is)
    (case ei6 => k_is)
    (case ej6 => k_is)
    (case el6 => k_is)
    (case ec6 => k_is)
    (case ek6 => k_is)
    (case ee6 => k_is)
    (case et6 => k_is)
    (case ey6 => k_is)
    (case ea7 => k_is)
    (case ex7 => k_is)
    (case eb7 => decide +kernel)
    (case es7 => k_is)
    (case eg7 => k_is)
    (case eh7 => k_is)
    (case en7 => k_is)
    (case ei7 => k_is)
    (case ej7 => k_is)
    (case el7 => k_is)
    (case ec7 => k_is)
    (case ek7 => k_is)
    (case ee7 => k_is)
    (case et7 => k_is)
    (case ey7 => k_is)
    (case ea8 => k_is)
    (case ex8 => k_is)
    (case eb8 => decide +kernel)
    (case es8 => k_is)
    (case eg8 => k_is)
    (case eh8 => k_is)
    (case en8 => k_is)
    (case ei8 => k_is)
    (case ej8 => k_is)
    (case el8 => k_is)
    (case ec8 => k_is)
    (case ek8 => k_is)
    (case ee8 => k_is)
    (case et8 => k_is)
    (case ey8 => k_is)
    (case ea9 => k_is)
    (case ex9 => k_exc)
    (case ek9 => k_is)
    (case ee9 => k_is)
    (case et9 => k_is)
    (case ea10 => k_is)
    (case ex10 => k_exc)
    (case ek10 => k_is)
    (case ee10 => k_is)
    (case et10 => k_is)
    (case ea11 => k_is)
    (case ex11 => k_exc)
    (case ek11 => k_is)
    (case ee11 => k_is)
    (case et11 => k_is)
    (case ea12 => k_is)
    (case ex12 => k_is)
    (case eb12 => decide +kernel)
    (case es12 => k_is)
    (case eg12 => k_is)
    (case eh12 => k_is)
    (case en12 => k_is)
    (case ei12 => k_is)
    (case ej12 => k_is)
    (case el12 => k_is)
    (case ec12 => k_is)
    (case ek12 => k_is)
    (case ee12 => k_is)
    (case et12 => k_is)
    (case ey12 => k_is)
    (case ea13 => k_is)
    (case ex13 => k_is)
    (case eb13 => decide +kernel)
    (case es13 => k_is)
    (case eg13 => k_is)
    (case eh13 => k_is)
    (case en13 => k_is)
    (case ei13 => k_is)
    (case ej13 => k_is)
    (case el13 => k_is)
    (case ec13 => k_is)
    (case ek13 => k_is)
    (case ee13 => k_is)
    (case et13 => k_is)
    (case ey13 => k_is)
    (case ea14 => k_is)
    (case ex14 => k_exc)
    (case ek14 => k_is)
    (case ee14 => k_is)
    (case et14 => k_is)
    (case ea15 => k_is)
    (case ex15 => k_is)
    (case eb15 => decide +kernel)
    (case es15 => k_is)
    (case eg15 => k_is)
    (case eh15 => k_is)
    (case en15 => k_is)
    (case ei15 => k_is)
    (case ej15 => k_is)
    (case el15 => k_is)
    (case ec15 => k_is)
    (case ek15 => k_is)
    (case ee15 => k_is)
    (case et15 => k_is)
    (case ey15 => k_is)
    (case ea16 => k_is)
    (case ex16 => k_is)
    (case eb16 => decide +kernel)
    (case es16 => k_is)
    (case eg16 => k_is)
    (case eh16 => k_is)
    (case en16 => k_is)
    (case ei16 => k_is)
    (case ej16 => k_is)
    (case el16 => k_is)
    (case ec16 => k_is)
    (case ek16 => k_is)
    (case ee16 => k_is)
    (case et16 => k_is)
    (case ey16 => k_is)
    (case ea17 => k_is)
    (case ex17 => k_exc)
    (case ek17 => k_is)
    (case ee17 => k_is)
    (case et17 => k_is)
    (case ea18 => k_is)
    (case ex18 => k_is)
    (case eb18 => decide +kernel)
    (case es18 => k_is)
    (case eg18 => k_is)
    (case eh18 => k_is)
    (case en18 => k_is)
    (case ei18 => k_is)
    (case ej18 => k_is)
    (case el18 => k_is)
    (case ec18 => k_is)
    (case ek18 => k_is)
    (case ee18 => k_is)
    (case et18 => k_is)
    (case ey18 => k_is)
    (case ea19 => k_is)
    (case ex19 => k_exc)
    (case ek19 => k_is)
    (case ee19 => k_is)
    (case et19 => k_is)
    (case ea20 => k_is)
    (case ex20 => k_exc)
    (case ek20 => k_is)
    (case ee20 => k_is)
    (case et20 => k_is)
    (case ea21 => k_is)
    (case ex21 => k_is)
    (case eb21 => decide +kernel)
    (case es21 => k_is)
    (case eg21 => k_is)
    (case eh21 => k_is)
    (case en21 => k_is)
    (case ei21 => k_is)
    (case ej21 => k_is)
    (case el21 => k_is)
    (case ec21 => k_is)
    (case ek21 => k_is)
    (case ee21 => k_is)
    (case et21 => k_is)
    (case ey21 => k_is)
    (case ea22 => k_is)
    (case ex22 => k_exc)
    (case ek22 => k_is)
    (case ee22 => k_is)
    (case et22 => k_is)
    (case ea23 => k_is)
    (case ex23 => k_is)
    (case eb23 => decide +kernel)
    (case es23 => k_is)
    (case eg23 => k_is)
    (case eh23 => k_is)
    (case en23 => k_is)
    (case ei23 => k_is)
    (case ej23 => k_is)
    (case el23 => k_is)
    (case ec23 => k_is)
    (case ek23 => k_is)
    (case ee23 => k_is)
    (case et23 => k_is)
    (case ey23 => k_is)
    (case ea24 => k_is)
    (case ex24 => k_exc)
    (case ek24 => k_is)
    (case ee24 => k_is)
    (case et24 => k_is)
    (case ea25 => k_is)
    (case ex25 => k_is)
    (case eb25 => decide +kernel)
    (case es25 => k_is)
    (case eg25 => k_is)
    (case eh25 => k_is)
    (case en25 => k_is)
    (case ei25 => k_is)
    (case ej25 => k_is)
    (case el25 => k_is)
    (case ec25 => k_is)
    (case ek25 => k_is)
    (case ee25 => k_is)
    (case et25 => k_is)
    (case ey25 => k_is)
    (case ea26 => k_is)
    (case ex26 => k_is)
    (case eb26 => decide +kernel)
    (case es26 => k_is)
    (case eg26 => k_is)
    (case eh26 => k_is)
    (case en26 => k_is)
    (case ei26 => k_is)
    (case ej26 => k_is)
    (case el26 => k_is)
    (case ec26 => k_is)
    (case ek26 => k_is)
    (case ee26 => k_is)
    (case et26 => k_is)
    (case ey26 => k_is)
    (case ea27 => k_is)
    (case ex27 => k_is)
    (case eb27 => decide +kernel)
    (case es27 => k_is)
    (case eg27 => k_is)
    (case eh27 => k_is)
    (case en27 => k_is)
    (case ei27 => k_is)
    (case ej27 => k_is)
    (case el27 => k_is)
    (case ec27 => k_is)
    (case ek27 => k_is)
    (case ee27 => k_is)
    (case et27 => k_is)
    (case ey27 => k_is)
    (case ea28 => k_is)
    (case ex28 => k_exc)
    (case ek28 => k_is)
    (case ee28 => k_is)
    (case et28 => k_is)
    (case y0 => k_is)
    (case y1 => k_is)
    (case y2 => k_is)
    (case y3 => k_is)
    (case y4 => k_is)
    (case z0 => k_is)
    (case z1 => k_is)
    (case z2 => k_is)
    (case z3 => k_is)
    (case z4 => k_is)
    (case z5 => k_is)
    (case z6 => k_is)
    (case z7 => k_is)
    (case z8 => k_is)
    (case z9 => k_is)
    (case z10 => k_is)
    (case z11 => k_is)
    (case z12 => k_is)
    (case z13 => k_is)
    (case z14 => k_is)
    (case z15 => k_is)
    (case z16 => k_is)
    (case z17 => k_is)
    (case z18 => k_is)
    (case z19 => k_is)
    (case z20 => k_is)

