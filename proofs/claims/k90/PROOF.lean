import PyProof.Rows.All
import Wide.All
import OpenK.AllK
import Wide.FinOn
import HandS.ForMost
import HandS.ForExc
import HandS.Deep
import HandS.TupAny
import HandS.TupMul
import HandS.SetKeys
import HandS.Flow
import HandS.Zip
import HandS.Star
import HandS.IsInst
import HandS.Strs
import HandS.Style
import HandS.CallSlots
import HandS.Conv
import HandS.Text
import HandS.Wide
import HandS.SetTxt0
import HandS.SetFor
import HandS.Small
import KE.KExcIs
import KE.IntTextLaws
import KE.KIntText
import PySem.Challenge.RW_onehostmore_k90_crowds_as_texts
set_option linter.all false
set_option Elab.async false
set_option maxRecDepth 100000
/-! IV0: data trees, the small language IE/IS, and its evaluator (own work). -/
namespace IV
open PySem (Str)

/-- data: what a Python value looks like from outside; own i: the object that the local name i owns -/
inductive D where
  | non | bl (b : Bool) | int (i : Int) | str (s : Str)
  | tup (xs : List D) | lst (xs : List D) | dct (kvs : List (D × D))
  | obj (c : Nat) (fs : List (Str × D))
  | exc (c : Nat) (fs : List (Str × D))
  | own (i : Nat)
  deriving Inhabited

/-- a local name: without a value, with a value that never changes, owning an object that only it can change -/
inductive Ent where
  | no | fz (d : D) | ow (d : D)
  deriving Inhabited
abbrev Env := List Ent

/-- what comes of a run: an end, an error, or nothing that is told -/
inductive R (α : Type) where
  | ok (a : α) | ex (c : Nat) (fs : List (Str × D)) (e : Env) | no
namespace R
@[inline] def bind {α β : Type} (r : R α) (f : α → R β) : R β := match r with
  | .ok a => f a
  | .ex c fs e => .ex c fs e
  | .no => .no
@[simp] theorem bind_ok {α β : Type} (a : α) (f : α → R β) : R.bind (.ok a) f = f a := rfl
@[simp] theorem bind_ex {α β : Type} (c : Nat) (fs : List (Str × D)) (e : Env) (f : α → R β) : R.bind (.ex c fs e) f = .ex c fs e := rfl
@[simp] theorem bind_no {α β : Type} (f : α → R β) : R.bind (.no : R α) f = .no := rfl
/-- an error here is not told -/
def noEx {α : Type} : R α → R α
  | .ok a => .ok a
  | _ => .no
def of {α : Type} : Option α → R α
  | some a => .ok a
  | none => .no
@[simp] theorem of_some {α : Type} (a : α) : R.of (some a) = .ok a := rfl
@[simp] theorem of_none {α : Type} : R.of (none : Option α) = .no := rfl
end R

inductive BOp where
  | add | sub | mul | fdiv | mod | pow
  deriving DecidableEq
inductive COp where
  | eq | ne | lt | le | gt | ge | isin | notin
  deriving DecidableEq
/-- built-in functions by name -/
inductive BI where
  | len | abs | int | str | tuple | list | sorted | sset | sum | all | any | min2 | max2 | min1 | max1 | dict | sitems
  deriving DecidableEq
/-- classes that isinstance is asked for -/
inductive Ty where
  | int | bool | str | list | tuple | dict | cls (c : Nat)
  deriving DecidableEq
/-- methods of built-in things -/
inductive ME where
  | split | join | partition | get | index | count
  deriving DecidableEq
/-- what a loop walks -/
inductive IK where
  | seq | rng | enum | zip | items | vals
  deriving DecidableEq
/-- a target: a name, or a tuple of names -/
inductive Tg where
  | n (i : Nat) | t (is : List Nat)

inductive IE where
  | c (d : D)
  | v (i : Nat)
  | ov (i : Nat)
  | g (x : Nat)
  | star (e : IE)
  | tup (es : List IE)
  | lst (es : List IE)
  | bin (o : BOp) (a b : IE)
  | neg (a : IE)
  | cmp (o : COp) (a b : IE)
  | chain (o o' : COp) (a b c : IE)
  | isN (a : IE)
  | notN (a : IE)
  | not (a : IE)
  | and (a b : IE)
  | or (a b : IE)
  | ife (t a b : IE)
  | sub (a i : IE)
  | slc (a lo hi : IE)
  | rev (a : IE)
  | call (f : Nat) (args : List IE) (ks : List Nat)
  | call1 (f : Nat) (e : IE)
  | bi (b : BI) (args : List IE)
  | isi (a : IE) (ts : List Ty)
  | isx (a : IE) (c : Nat)
  | me (m : ME) (o : IE) (args : List IE)
  | pop (i : Nat)
  | popAt (i : Nat) (e : IE)
  | comp (own : List Nat) (tg : Tg) (k : IK) (args ifs : List IE) (last : Bool) (body : IE)
  | gen (tg : Tg) (k : IK) (args ifs : List IE) (last : Bool) (body : IE)
  | bad

inductive IS where
  | asg (i : Nat) (e : IE)
  | own (i : Nat) (e : IE)
  | fz (i : Nat) (s : IS)
  | unp (is : List Nat) (e : IE)
  | par (is : List Nat) (ow : List Bool) (es : List IE)
  | set (i : Nat) (k e : IE)
  | app (i : Nat) (e : IE)
  | expr (e : IE)
  | ret (e : IE)
  | retN (e : IE)
  | retO (i : Nat)
  | ifs (t : IE) (a b : List IS)
  | for_ (tg : Tg) (k : IK) (args : List IE) (body : List IS)
  | while_ (t : IE) (body : List IS)
  | pass | brk | cont
  | bad
  | thru (body : List IS)
  | rais (c : Nat) (es : List IE)
  | tryK (body : List IS) (cs : List Nat) (i j : Nat)

structure IFun where
  np : Nat
  fresh : Bool := false
  ns : Nat
  body : List IS
  kws : List (Nat × List Nat) := []
  nat : Option (Env → R (D × Env)) := none

/-- a program: its defs by number, its constants, how long a while may run -/
structure Tab where
  fn : Nat → Option IFun
  gl : Nat → Option D
  fuel : Nat
  /-- is the class c (of an exception) beneath the class c'? -/
  sub : Nat → Nat → Option Bool := fun _ _ => none

/-! ### data -/
def line : Nat := 16777216
def getE (env : Env) (i : Nat) : Ent := env.getD i .no
/-- the datum itself, where a name that owns it is meant -/
def res (env : Env) : D → D
  | .own i => match getE env i with
    | .ow d => d
    | _ => .own i
  | d => d
def isNon : D → Bool
  | .non => true
  | _ => false
def isOwn : D → Bool
  | .own _ => true
  | _ => false
/-- a datum that is told by itself -/
def fzn (d : D) : Option D := if isOwn d then none else some d

def truth : D → Option Bool
  | .non => some false
  | .bl b => some b
  | .int i => some (i != 0)
  | .str s => if s.length ≤ line then some (s.length != 0) else none
  | .tup xs => some (!xs.isEmpty)
  | .lst xs => some (!xs.isEmpty)
  | _ => none

mutual
/-- Python's == -/
def deq : D → D → Bool
  | .non, .non => true
  | .bl a, .bl b => a == b
  | .bl a, .int j => (if a then 1 else 0) == j
  | .int i, .bl b => i == (if b then 1 else 0)
  | .int i, .int j => i == j
  | .str a, .str b => a == b
  | .tup xs, .tup ys => deqs xs ys
  | .lst xs, .lst ys => deqs xs ys
  | _, _ => false
def deqs : List D → List D → Bool
  | [], [] => true
  | x :: xs, y :: ys => deq x y && deqs xs ys
  | _, _ => false
end
/-- None, truths, numbers, texts -/
def flat : D → Bool
  | .non => true
  | .bl _ => true
  | .int _ => true
  | .str _ => true
  | _ => false
/-- .. two that are not a number and a truth -/
def flat2 : D → D → Bool
  | .int _, .bl _ => false
  | .bl _, .int _ => false
  | a, b => flat a && flat b
mutual
/-- made of None, truths, numbers, texts, lists, tuples; not deeper than n -/
def plainD : Nat → D → Bool
  | _, .non => true
  | _, .bl _ => true
  | _, .int _ => true
  | _, .str s => PySem.PyData.strOk s
  | n, .tup xs => match n with
    | 0 => false
    | n + 1 => plainDs n xs
  | n, .lst xs => match n with
    | 0 => false
    | n + 1 => plainDs n xs
  | _, .dct _ => false
  | _, .obj _ _ => false
  | _, .exc _ _ => false
  | _, .own _ => false
def plainDs : Nat → List D → Bool
  | _, [] => true
  | n, x :: xs => plainD n x && plainDs n xs
end

def small (i : Int) : Bool := decide (-18446744073709551616 < i) && decide (i < 18446744073709551616)

def rept {α : Type} (n : Nat) (xs : List α) : List α := (List.replicate n xs).flatten
def strRept (n : Nat) (s : Str) : Str := ⟨(rept n s.cps.toList).toArray⟩

def bop : BOp → D → D → Option D
  | .add, .int i, .int j => some (.int (i + j))
  | .add, .str a, .str b => if a.length + b.length ≤ line then some (.str (a ++ b)) else none
  | .add, .lst a, .lst b => if a.length + b.length ≤ line then some (.lst (a ++ b)) else none
  | .add, .tup a, .tup b => if a.length + b.length ≤ line then some (.tup (a ++ b)) else none
  | .sub, .int i, .int j => some (.int (i - j))
  | .mul, .int i, .int j => if small i || small j then some (.int (i * j)) else none
  | .mul, .str a, .int j => if a.length * j.toNat ≤ line && decide (-(2 ^ 62) ≤ j) && decide (j < 2 ^ 62) then some (.str (strRept j.toNat a)) else none
  | .mul, .lst a, .int j => if a.length * j.toNat ≤ line && decide (-(2 ^ 62) ≤ j) && decide (j < 2 ^ 62) then some (.lst (rept j.toNat a)) else none
  | .mul, .tup a, .int j => if !a.isEmpty && decide (2 ≤ j) && decide (j ≤ 1000) && decide (a.length ≤ 1000) then some (.tup (rept j.toNat a)) else none
  | .fdiv, .int i, .int j => if decide (0 < j) && decide (j.natAbs.log2 < 9000) then some (.int (i.fdiv j)) else none
  | .mod, .int i, .int j => if decide (0 < j) then some (.int (i.fmod j)) else none
  | .pow, .int i, .int j => if decide (0 ≤ j) && decide (j ≤ 1000) && small i then some (.int (i ^ j.toNat)) else none
  | _, _, _ => none

def inDs (x : D) : List D → Bool
  | [] => false
  | y :: ys => deq y x || inDs x ys
def keyIn (x : D) : List (D × D) → Bool
  | [] => false
  | (k, _) :: r => deq k x || keyIn x r
def keyGet (x : D) : List (D × D) → Option D
  | [] => none
  | (k, v) :: r => if deq k x then some v else keyGet x r
def keySet (x d : D) (kvs : List (D × D)) : List (D × D) := if keyIn x kvs then kvs.map fun kv => if deq kv.1 x then (kv.1, d) else kv else kvs ++ [(x, d)]
/-- a key: a number or a text -/
def isKey : D → Bool
  | .int _ => true
  | .str _ => true
  | _ => false

def cop : COp → D → D → Option Bool
  | .eq, a, b => if flat2 a b || (plainD 60 a && plainD 60 b) then some (deq a b) else none
  | .ne, a, b => if flat2 a b || (plainD 60 a && plainD 60 b) then some (!deq a b) else none
  | .lt, .int i, .int j => some (decide (i < j))
  | .le, .int i, .int j => some (decide (i ≤ j))
  | .gt, .int i, .int j => some (decide (j < i))
  | .ge, .int i, .int j => some (decide (j ≤ i))
  | .lt, .str a, .str b => some (decide (a.cps.toList < b.cps.toList))
  | .gt, .str a, .str b => some (decide (b.cps.toList < a.cps.toList))
  | .le, .str a, .str b => some (!decide (b.cps.toList < a.cps.toList))
  | .ge, .str a, .str b => some (!decide (a.cps.toList < b.cps.toList))
  | .isin, .str ⟨⟨[c]⟩⟩, .str b => some (decide (c ∈ b.cps.toList))
  | .notin, .str ⟨⟨[c]⟩⟩, .str b => some (!decide (c ∈ b.cps.toList))
  | .isin, x, .lst ys => if (flat x && ys.all flat) || (plainD 58 x && plainDs 58 ys) then some (inDs x ys) else none
  | .notin, x, .lst ys => if (flat x && ys.all flat) || (plainD 58 x && plainDs 58 ys) then some (!inDs x ys) else none
  | .isin, x, .tup ys => if flat x && ys.all flat then some (inDs x ys) else none
  | .notin, x, .tup ys => if flat x && ys.all flat then some (!inDs x ys) else none
  | .isin, x, .dct ys => if isKey x then some (keyIn x ys) else none
  | .notin, x, .dct ys => if isKey x then some (!keyIn x ys) else none
  | _, _, _ => none

def subD : D → D → Option D
  | .lst xs, .int i => L2.atI xs i
  | .tup xs, .int i => L2.atI xs i
  | .str s, .int i => if s.length ≤ line then (L2.atI s.cps.toList i).map fun c => .str ⟨#[c]⟩ else none
  | .dct kvs, k => if isKey k then keyGet k kvs else none
  | _, _ => none
/-- a bound of a slice: c None stands for none -/
def absent : IE → Bool
  | .c .non => true
  | _ => false
def bndE (ie : IE) (d : D) : Option (Option Int) := if absent ie then some none else match d with
  | .int i => some (some i)
  | _ => none
def cutD {α : Type} (xs : List α) (lo hi : Option Int) : List α := (xs.drop (HT.sIx xs.length 0 lo)).take (HT.sIx xs.length xs.length hi - HT.sIx xs.length 0 lo)
def slcD (d : D) (lo hi : Option Int) : Option D := match d with
  | .lst xs => some (.lst (cutD xs lo hi))
  | .tup xs => some (.tup (cutD xs lo hi))
  | .str s => if s.length ≤ line then some (.str (L2.cutS s lo hi)) else none
  | _ => none

/-! ### sorting: numbers, texts -/
def ins {α : Type} (le : α → α → Bool) (x : α) : List α → List α
  | [] => [x]
  | y :: ys => if le x y then x :: y :: ys else y :: ins le x ys
def isort {α : Type} (le : α → α → Bool) : List α → List α
  | [] => []
  | x :: xs => ins le x (isort le xs)
def dInts : List D → Option (List Int)
  | [] => some []
  | .int i :: r => (dInts r).map (i :: ·)
  | _ => none
def dStrs : List D → Option (List Str)
  | [] => some []
  | .str i :: r => (dStrs r).map (i :: ·)
  | _ => none
def bools : List D → Option (List Bool)
  | [] => some []
  | .bl i :: r => (bools r).map (i :: ·)
  | _ => none
def leI (a b : Int) : Bool := decide (a ≤ b)
def leS (a b : Str) : Bool := !decide (b.cps.toList < a.cps.toList)
/-- each once, in the order in which they come last -/
def once {α : Type} [DecidableEq α] : List α → List α
  | [] => []
  | x :: xs => if x ∈ xs then once xs else x :: once xs
def srt (xs : List D) : Option (List D) := if xs.length < 64 then (match dInts xs with
  | some ns => some ((isort leI ns).map .int)
  | none => match dStrs xs with
    | some ss => some ((isort leS ss).map .str)
    | none => none) else none
def sset (xs : List D) : Option (List D) := if xs.length < 64 then (match dStrs xs with
    | some ss => some ((isort leS (once ss)).map .str)
    | none => none) else none
def seqOf : D → Option (List D)
  | .lst xs => some xs
  | .tup xs => some xs
  | _ => none
def pairs : List D → Option (List (D × D))
  | [] => some []
  | .tup [k, v] :: r => if isKey k then (pairs r).map ((k, v) :: ·) else none
  | _ => none
def merge (kvs : List (D × D)) : List (D × D) → List (D × D)
  | [] => kvs
  | (k, v) :: r => merge (keySet k v kvs) r

def biD : BI → List D → Option D
  | .len, [.str s] => if s.length ≤ line then some (.int s.length) else none
  | .len, [.lst xs] => some (.int xs.length)
  | .len, [.tup xs] => some (.int xs.length)
  | .len, [.dct xs] => some (.int xs.length)
  | .abs, [.int i] => some (.int (if i < 0 then -i else i))
  | .int, [.int i] => some (.int i)
  | .int, [.bl b] => some (.int (if b then 1 else 0))
  | .int, [.str s] => if s.length ≤ 640 then (PySem.intText? s).map .int else none
  | .str, [.int i] => if i.natAbs.log2 < 1920 then some (.str (Str.ofString (toString i))) else none
  | .tuple, [.lst xs] => some (.tup xs)
  | .tuple, [.tup xs] => some (.tup xs)
  | .list, [.lst xs] => some (.lst xs)
  | .list, [.tup xs] => some (.lst xs)
  | .list, [.dct kvs] => some (.lst (kvs.map (·.1)))
  | .sorted, [.lst xs] => (srt xs).map .lst
  | .sorted, [.dct kvs] => (srt (kvs.map (·.1))).map .lst
  | .sset, [.lst xs] => (sset xs).map .lst
  | .sum, [.lst xs] => (dInts xs).map fun ns => .int ns.sum
  | .all, [.lst xs] => (bools xs).map fun bs => .bl (bs.all id)
  | .any, [.lst xs] => (bools xs).map fun bs => .bl (bs.any id)
  | .min2, [.int i, .int j] => some (.int (if j < i then j else i))
  | .max2, [.int i, .int j] => some (.int (if i < j then j else i))
  | _, _ => none

/-- the class of a datum -/
def tyOf : D → Option String
  | .non => some "NoneType"
  | .bl _ => some "bool"
  | .int _ => some "int"
  | .str _ => some "str"
  | .tup _ => some "tuple"
  | .lst _ => some "list"
  | .dct _ => some "dict"
  | _ => none
def tyNm : Ty → Option String
  | .int => some "int"
  | .bool => some "bool"
  | .str => some "str"
  | .list => some "list"
  | .tuple => some "tuple"
  | .dict => some "dict"
  | .cls _ => none
/-- is a datum of this class? -/
def tyIs (d : D) (t : Ty) : Option Bool := match d, t with
  | .non, .cls _ => none
  | .bl _, .cls _ => none
  | .int _, .cls _ => none
  | .str _, .cls _ => none
  | .tup _, .cls _ => none
  | .lst _, .cls _ => none
  | .dct _, .cls _ => none
  | .own _, _ => none
  | .obj _ _, _ => none
  | .exc _ _, _ => none
  | .bl _, .int => some true
  | .bl _, .bool => some true
  | .int _, .int => some true
  | .str _, .str => some true
  | .tup _, .tuple => some true
  | .lst _, .list => some true
  | .dct _, .dict => some true
  | _, _ => some false
def tyAny (d : D) : List Ty → Option Bool
  | [] => some false
  | t :: ts => (tyIs d t).bind fun b => (tyAny d ts).bind fun c => some (b || c)

def mkS (l : List Nat) : D := .str ⟨l.toArray⟩
def small8 (b : Str) : Bool := b.cps.toList.all (fun c => decide (c < 256))
/-- the things that have these methods -/
def meTy : ME → D → Bool
  | .split, .str _ => true
  | .join, .str _ => true
  | .partition, .str _ => true
  | .get, .dct _ => true
  | _, _ => false
def strsOf : D → Option (List Str)
  | .lst xs => dStrs xs
  | .tup xs => dStrs xs
  | _ => none
def meD : ME → D → List D → Option D
  | .split, .str a, [.str b] => if (b.length != 0) && decide (a.length + 2 ≤ line) && small8 b then some (.lst ((TL.spl b.cps.toList 0 [] a.cps.toList).map mkS)) else none
  | .partition, .str a, [.str b] => if (b.length != 0) && decide (a.length ≤ line) then (match TL.par b.cps.toList [] a.cps.toList with
    | some (x, y) => some (.tup [mkS x, .str b, mkS y])
    | none => some (.tup [.str a, mkS [], mkS []])) else none
  | .join, .str a, [d] => (strsOf d).bind fun ys => if (ys.map (·.length)).sum + ys.length * a.length ≤ line then some (mkS (TL.joinL a.cps.toList (ys.map (·.cps.toList)))) else none
  | .get, .dct kvs, [k, d] => if isKey k && !isOwn d then some ((keyGet k kvs).getD d) else none
  | _, _, _ => none

/-- the items that a loop takes, one after another -/
def chars (s : Str) : List D := s.cps.toList.map fun c => .str ⟨#[c]⟩
def rangeD (lo : Int) : Nat → List D
  | 0 => []
  | n + 1 => .int lo :: rangeD (lo + 1) n
def enumD (i : Int) : List D → List D
  | [] => []
  | x :: xs => .tup [.int i, x] :: enumD (i + 1) xs
def zipD : List D → List D → List D
  | x :: xs, y :: ys => .tup [x, y] :: zipD xs ys
  | _, _ => []
def inRange (i : Int) : Bool := decide (-(2 ^ 62) ≤ i) && decide (i < 2 ^ 62)
def itSeq : List D → Option (List D)
  | [.lst xs] => some xs
  | [.tup xs] => some xs
  | [.str s] => some (chars s)
  | [.dct kvs] => some (kvs.map (·.1))
  | _ => none
def itRng : List D → Option (List D)
  | [.int j] => if inRange j then some (rangeD 0 j.toNat) else none
  | [.int i, .int j] => if inRange i && inRange j then some (rangeD i (j - i).toNat) else none
  | _ => none
def itEnum : List D → Option (List D)
  | [.lst xs] => some (enumD 0 xs)
  | _ => none
def itZip : List D → Option (List D)
  | [.lst xs, .lst ys] => some (zipD xs ys)
  | [.tup xs, .tup ys] => some (zipD xs ys)
  | _ => none
def itItems : List D → Option (List D)
  | [.dct kvs] => some (kvs.map fun kv => .tup [kv.1, kv.2])
  | _ => none
def itVals : List D → Option (List D)
  | [.dct kvs] => some (kvs.map (·.2))
  | _ => none
def itD (k : IK) (ds : List D) : Option (List D) := match k with
  | .seq => itSeq ds
  | .rng => itRng ds
  | .enum => itEnum ds
  | .zip => itZip ds
  | .items => itItems ds
  | .vals => itVals ds

/-! ### names -/
/-- names that must not be bound anew: those through which a caller's object is changed -/
abbrev Lk := Nat → Bool
def setE (lk : Lk) (i : Nat) (e : Ent) (env : Env) : Option Env := if lk i then none else if i < env.length then some (env.set i e) else none
def setsE (lk : Lk) : List Nat → List D → Env → Option Env
  | [], [], env => some env
  | i :: is, d :: ds, env => if isOwn d then none else (setE lk i (.fz d) env).bind fun env1 => setsE lk is ds env1
  | _, _, _ => none
def tgE (lk : Lk) (tg : Tg) (d : D) (env : Env) : Option Env := match tg with
  | .n i => if isOwn d then none else setE lk i (.fz d) env
  | .t is => match d with
    | .tup xs => setsE lk is xs env
    | .lst xs => setsE lk is xs env
    | _ => none

/-- the arguments in the parameters' order -/
def arr {α : Type} (np : Nat) (pos : List α) (ks : List Nat) (kv : List α) : Option (List α) :=
  if pos.length ≤ np then (List.range np).mapM fun p => if p < pos.length then pos[p]? else (ks.zip kv).lookup p else none
/-- what a callee gets -/
def entOf (env : Env) : D → Option Ent
  | .own i => match getE env i with
    | .ow d => some (.ow d)
    | _ => none
  | d => some (.fz d)
def nodupOwn : List D → List Nat → Bool
  | [], _ => true
  | .own i :: r, seen => !seen.contains i && nodupOwn r (i :: seen)
  | _ :: r, seen => nodupOwn r seen
def putBack : List D → Env → Env → Env
  | .own i :: ds, e :: es, env => putBack ds es (env.set i e)
  | _ :: ds, _ :: es, env => putBack ds es env
  | _, _, env => env

/-- behind a call; where it fails, no object of the caller's may have been given to it -/
def callR (ds : List D) (env : Env) : R (D × Env) → R (D × Env)
  | .ok r => .ok (r.1, putBack ds r.2 env)
  | .ex c fs _ => if ds.any isOwn then .no else .ex c fs env
  | .no => .no
def subAny (T : Tab) (c : Nat) : List Nat → Option Bool
  | [] => some false
  | c' :: cs => (T.sub c c').bind fun b => (subAny T c cs).bind fun b' => some (b || b')

inductive Fl where
  | next | brk | cont | ret (d : D)

/-- a loop that gathers -/
def loopC (step : D → Env → R (List D × Env)) : List D → Env → R (List D × Env)
  | [], env => .ok ([], env)
  | x :: xs, env => (step x env).bind fun p => (loopC step xs p.2).bind fun q => .ok (p.1 ++ q.1, q.2)
def loopS (step : D → Env → R (Fl × Env)) : List D → Env → R (Fl × Env)
  | [], env => .ok (.next, env)
  | x :: xs, env => (step x env).bind fun p => match p.1 with
    | .next => loopS step xs p.2
    | .cont => loopS step xs p.2
    | .brk => .ok (.next, p.2)
    | .ret d => .ok (.ret d, p.2)
def loopW (test : Env → R (Bool × Env)) (body : Env → R (Fl × Env)) : Nat → Env → R (Fl × Env)
  | 0, _ => .no
  | n + 1, env => (test env).bind fun p => if p.1 then (body p.2).bind fun q => match q.1 with
      | .next => loopW test body n q.2
      | .cont => loopW test body n q.2
      | .brk => .ok (.next, q.2)
      | .ret d => .ok (.ret d, q.2)
    else .ok (.next, p.2)

/-- an object that a name can own -/
def isObj : D → Bool
  | .lst _ => true
  | .dct _ => true
  | .obj _ _ => true
  | _ => false
/-- a name that owns a list; an object -/
def ownsL (env : Env) (i : Nat) : Bool := match getE env i with
  | .ow (.lst _) => true
  | _ => false
def ownsX (env : Env) (i : Nat) : Bool := match getE env i with
  | .ow _ => true
  | _ => false
def wipeE : List Nat → Env → Env
  | [], env => env
  | i :: is, env => (wipeE is env).set i .no
/-- the block's own names as they were -/
def backE (old : Env) : List Nat → Env → Env
  | [], env => env
  | i :: is, env => (backE old is env).set i (getE old i)
def noOw (env : Env) (is : List Nat) : Bool := is.all fun i => match getE env i with
  | .ow _ => false
  | _ => true

section
variable (T : Tab) (C : Nat → Env → R (D × Env)) (lk : Lk)
mutual
def evE : IE → Env → R (D × Env)
  | .c d, env => .ok (d, env)
  | .v i, env => match getE env i with
    | .fz d => .ok (d, env)
    | .ow _ => .ok (.own i, env)
    | .no => .no
  | .ov i, env => match getE env i with
    | .ow _ => .ok (.own i, env)
    | _ => .no
  | .g x, env => (R.of (T.gl x)).bind fun d => .ok (d, env)
  | .star _, _ => .no
  | .tup es, env => (evEs es env).bind fun p => if p.1.any isOwn || !decide (p.1.length ≤ line) then .no else .ok (.tup p.1, p.2)
  | .lst es, env => (evEs es env).bind fun p => if p.1.any isOwn || !decide (p.1.length ≤ line) then .no else .ok (.lst p.1, p.2)
  | .bin o a b, env => (evE a env).bind fun p => (evE b p.2).bind fun q => (R.of (bop o (res q.2 p.1) (res q.2 q.1))).bind fun d => .ok (d, q.2)
  | .neg a, env => (evE a env).bind fun p => match p.1 with
    | .int i => .ok (.int (-i), p.2)
    | _ => .no
  | .cmp o a b, env => (evE a env).bind fun p => (evE b p.2).bind fun q => (R.of (cop o (res q.2 p.1) (res q.2 q.1))).bind fun d => .ok (.bl d, q.2)
  | .chain o o' a b c, env => (evE a env).bind fun p => (evE b p.2).bind fun q => (R.of (cop o (res q.2 p.1) (res q.2 q.1))).bind fun d =>
      if d then (evE c q.2).bind fun r => (R.of (cop o' (res r.2 q.1) (res r.2 r.1))).bind fun d => .ok (.bl d, r.2) else .ok (.bl false, q.2)
  | .isN a, env => (evE a env).bind fun p => if isOwn p.1 then .no else .ok (.bl (isNon p.1), p.2)
  | .notN a, env => (evE a env).bind fun p => if isOwn p.1 then .no else .ok (.bl (!isNon p.1), p.2)
  | .not a, env => (evE a env).bind fun p => (R.of (truth (res p.2 p.1))).bind fun b => .ok (.bl (!b), p.2)
  | .and a b, env => (evE a env).bind fun p => if isOwn p.1 then .no else (R.of (truth p.1)).bind fun k => if k then evE b p.2 else .ok (p.1, p.2)
  | .or a b, env => (evE a env).bind fun p => if isOwn p.1 then .no else (R.of (truth p.1)).bind fun k => if k then .ok (p.1, p.2) else evE b p.2
  | .ife t a b, env => (evE t env).bind fun p => (R.of (truth (res p.2 p.1))).bind fun k => if k then evE a p.2 else evE b p.2
  | .sub a i, env => (evE a env).bind fun p => (evE i p.2).bind fun q => if isOwn q.1 then .no else (R.of (subD (res q.2 p.1) q.1)).bind fun d => .ok (d, q.2)
  | .slc a lo hi, env => (evE a env).bind fun p => (evE lo p.2).bind fun q => (R.of (bndE lo q.1)).bind fun l => (evE hi q.2).bind fun r => (R.of (bndE hi r.1)).bind fun h => (R.of (slcD (res r.2 p.1) l h)).bind fun d => .ok (d, r.2)
  | .rev a, env => (evE a env).bind fun p => match res p.2 p.1 with
    | .lst xs => .ok (.lst xs.reverse, p.2)
    | .tup xs => .ok (.tup xs.reverse, p.2)
    | _ => .no
  | .call f es ks, env => (evEs es env).bind fun p => (R.of (T.fn f)).bind fun F =>
      (R.of (arr F.np (p.1.take (p.1.length - ks.length)) ks (p.1.drop (p.1.length - ks.length)))).bind fun ds =>
      if nodupOwn ds [] then (R.of (ds.mapM (entOf p.2))).bind fun as => callR ds p.2 (C f as) else .no
  | .call1 f e, env => (evE e env).bind fun p => if isObj p.1 then (R.of (T.fn f)).bind fun F => if F.np = 1 then (R.noEx (C f [.ow p.1])).bind fun r => .ok (r.1, p.2) else .no else .no
  | .bi b es, env => (evEs es env).bind fun p => (R.of (biD b (p.1.map (res p.2)))).bind fun d => .ok (d, p.2)
  | .isx a c, env => (evE a env).bind fun p => match p.1 with
    | .exc c' _ => (R.of (T.sub c' c)).bind fun b => .ok (.bl b, p.2)
    | _ => .no
  | .isi a ts, env => (evE a env).bind fun p => (R.of (tyAny (res p.2 p.1) ts)).bind fun b => .ok (.bl b, p.2)
  | .me m o es, env => (evE o env).bind fun p => if !meTy m (res p.2 p.1) then .no else (evEs es p.2).bind fun q => (R.of (meD m (res q.2 p.1) (q.1.map (res q.2)))).bind fun d => .ok (d, q.2)
  | .pop i, env => match getE env i with
    | .ow (.lst xs) => match xs.getLast? with
      | some x => .ok (x, env.set i (.ow (.lst xs.dropLast)))
      | none => .no
    | _ => .no
  | .popAt i e, env => if !ownsL env i then .no else (evE e env).bind fun p => match getE p.2 i, p.1 with
    | .ow (.lst xs), .int j => (R.of (L2.ixN xs.length j)).bind fun k => (R.of xs[k]?).bind fun x => .ok (x, p.2.set i (.ow (.lst (xs.eraseIdx k))))
    | _, _ => .no
  | .comp own tg k es ifs last body, env => (evEs es env).bind fun p => if p.1.any isOwn then .no else (R.of (itD k p.1)).bind fun xs =>
      if noOw p.2 own then
        (R.noEx (loopC (fun x env1 => (R.of (tgE lk tg x env1)).bind fun env2 => (evTs ifs env2).bind fun q => if q.1 then (if last then (evE body q.2).bind fun r => if isOwn r.1 then .no else .ok ([r.1], wipeE own r.2) else (evC body q.2).bind fun r => .ok (r.1, wipeE own r.2)) else .ok ([], wipeE own q.2)) xs (wipeE own p.2))).bind fun r =>
          if r.1.length ≤ line then .ok (.lst r.1, backE p.2 own r.2) else .no
      else .no
  | .gen _ _ _ _ _ _, _ => .no
  | .bad, _ => .no
/-- a further for of a comprehension -/
def evC : IE → Env → R (List D × Env)
  | .gen tg k es ifs last body, env => (evEs es env).bind fun p => if p.1.any isOwn then .no else (R.of (itD k p.1)).bind fun xs =>
      loopC (fun x env1 => (R.of (tgE lk tg x env1)).bind fun env2 => (evTs ifs env2).bind fun q => if q.1 then (if last then (evE body q.2).bind fun r => if isOwn r.1 then .no else .ok ([r.1], r.2) else evC body q.2) else .ok ([], q.2)) xs p.2
  | _, _ => .no
/-- all of some tests -/
def evTs : List IE → Env → R (Bool × Env)
  | [], env => .ok (true, env)
  | e :: es, env => (evE e env).bind fun p => (R.of (truth (res p.2 p.1))).bind fun b => if b then evTs es p.2 else .ok (false, p.2)
def evEs : List IE → Env → R (List D × Env)
  | [], env => .ok ([], env)
  | e :: es, env => match e with
    | .star e' => (evE e' env).bind fun p => (R.of (seqOf (res p.2 p.1))).bind fun xs => (evEs es p.2).bind fun q => .ok (xs ++ q.1, q.2)
    | e => (evE e env).bind fun p => (evEs es p.2).bind fun q => .ok (p.1 :: q.1, q.2)
end
/-- an expression that makes a new object -/
def newE : IE → Bool
  | .lst _ => true
  | .comp _ _ _ _ _ _ _ => true
  | .or a b => newE a && newE b
  | .bi .list _ => true
  | .bi .sorted _ => true
  | .bi .sset _ => true
  | .bi .dict _ => true
  | .bin .add _ _ => true
  | .bin .mul _ _ => true
  | .slc _ _ _ => true
  | .me .split _ _ => true
  | .call f _ _ => match T.fn f with
    | some F => F.fresh
    | none => false
  | .call1 f _ => match T.fn f with
    | some F => F.fresh
    | none => false
  | _ => false
/-- stored from the right -/
def parE : List Nat → List Bool → List IE → List D → Env → Option Env
  | [], [], [], [], env => some env
  | i :: is, o :: os, e :: es, d :: ds, env => (parE is os es ds env).bind fun env => if o then (if newE T e && isObj d then setE lk i (.ow d) env else none)
    else if isOwn d then none else setE lk i (.fz d) env
  | _, _, _, _, _ => none
def isStar : IE → Bool
  | .star _ => true
  | _ => false
mutual
def evS : IS → Env → R (Fl × Env)
  | .asg i e, env => (evE T C lk e env).bind fun p => if isOwn p.1 then .no else (R.of (setE lk i (.fz p.1) p.2)).bind fun env => .ok (.next, env)
  | .own i e, env => if newE T e then (evE T C lk e env).bind fun p => if isObj p.1 then (R.of (setE lk i (.ow p.1) p.2)).bind fun env => .ok (.next, env) else .no else .no
  | .fz i s, env => match getE env i with
    | .ow d => if lk i then .no else evS s (env.set i (.fz d))
    | _ => evS s env
  | .unp is e, env => (evE T C lk e env).bind fun p => (R.of (tgE lk (.t is) p.1 p.2)).bind fun env => .ok (.next, env)
  | .par is os es, env => if es.any isStar || !decide (is.Nodup) then .no else (evEs T C lk es env).bind fun p => (R.of (parE T lk is os es p.1 p.2)).bind fun env => .ok (.next, env)
  | .set i k e, env => (evE T C lk e env).bind fun p => if !ownsX p.2 i then .no else (evE T C lk k p.2).bind fun q => if isOwn p.1 then .no else match getE q.2 i, q.1 with
    | .ow (.lst xs), .int j => (R.of (L2.ixN xs.length j)).bind fun n => .ok (.next, q.2.set i (.ow (.lst (xs.set n p.1))))
    | .ow (.dct kvs), d => if isKey d && decide (kvs.length < line) then .ok (.next, q.2.set i (.ow (.dct (keySet d p.1 kvs)))) else .no
    | _, _ => .no
  | .app i e, env => if !ownsL env i then .no else (evE T C lk e env).bind fun p => if isOwn p.1 then .no else match getE p.2 i with
    | .ow (.lst xs) => if xs.length < line then .ok (.next, p.2.set i (.ow (.lst (xs ++ [p.1])))) else .no
    | _ => .no
  | .expr e, env => (evE T C lk e env).bind fun p => .ok (.next, p.2)
  | .ret e, env => (evE T C lk e env).bind fun p => if isOwn p.1 then .no else .ok (.ret p.1, p.2)
  | .retN e, env => if newE T e then (evE T C lk e env).bind fun p => if isObj p.1 then .ok (.ret p.1, p.2) else .no else .no
  | .retO i, env => match getE env i with
    | .ow d => if lk i then .no else .ok (.ret d, env.set i .no)
    | _ => .no
  | .ifs t a b, env => (evE T C lk t env).bind fun p => (R.of (truth (res p.2 p.1))).bind fun k => if k then evSs a p.2 else evSs b p.2
  | .for_ tg k es body, env => (evEs T C lk es env).bind fun p => if p.1.any isOwn then .no else (R.of (itD k p.1)).bind fun xs =>
      loopS (fun x env1 => (R.of (tgE lk tg x env1)).bind fun env2 => evSs body env2) xs p.2
  | .while_ t body, env => loopW (fun env => (evE T C lk t env).bind fun p => (R.of (truth (res p.2 p.1))).bind fun k => .ok (k, p.2)) (fun env => evSs body env) T.fuel env
  | .pass, env => .ok (.next, env)
  | .brk, env => .ok (.brk, env)
  | .cont, env => .ok (.cont, env)
  | .bad, _ => .no
  | .thru body, env => R.noEx (evSs body env)
  | .rais c es, env => match es with
    | [] => .ex c [] env
    | _ => .no
  | .tryK body cs i j, env => match evSs body env with
    | .ok p => .ok p
    | .no => .no
    | .ex c fs e => (R.of (subAny T c cs)).bind fun b => if b then (R.of (setE lk j (.fz (.exc c fs)) e)).bind fun e1 => (R.of (setE lk i .no e1)).bind fun e2 => .ok (.next, e2) else .ex c fs e
def evSs : List IS → Env → R (Fl × Env)
  | [], env => .ok (.next, env)
  | s :: ss, env => (evS s env).bind fun p => match p.1 with
    | .next => evSs ss p.2
    | f => .ok (f, p.2)
end
end
/-- where a parameter is an object of the caller's -/
def lockOf (as : Env) : Lk := fun i => match getE as i with
  | .ow _ => true
  | _ => false
/-- what a callee leaves of the caller's objects -/
def outsE : Env → Env → Env
  | .ow _ :: as, e :: es => e :: outsE as es
  | _ :: as, _ :: es => .no :: outsE as es
  | _, _ => []
/-- the call of a def, not more than k calls deep -/
def callF (T : Tab) : Nat → Nat → Env → R (D × Env)
  | 0, _, _ => .no
  | k + 1, f, as => (R.of (T.fn f)).bind fun F => if as.length = F.np then
      match F.nat with
      | some g => g as
      | none => (match evSs T (callF T k) (lockOf as) F.body (as ++ List.replicate (F.ns - F.np) .no) with
        | .ok p => match p.1 with
          | .ret d => .ok (d, outsE as p.2)
          | .next => if F.fresh then .no else .ok (.non, outsE as p.2)
          | _ => .no
        | .ex c fs _ => .ex c fs []
        | .no => .no)
    else .no
end IV

set_option linter.all false
set_option Elab.async false
set_option maxRecDepth 100000
/-! IV1: how data lie in the abstract heap; the state that belongs to an environment (own work). -/
namespace IV
open PySem L2

def keyD : Key → D
  | .inl i => .int i
  | .inr s => .str s

/-- what never changes, once it is there -/
def Stb : HO → Prop
  | .ins _ _ _ => True
  | .ext _ => True
  | .xd _ => True
  | _ => False
/-- a caught exception, of the class cls, its dict at d -/
def ExV (cls : Value) (d : Option Addr) (a : Addr) : HO := .ext fun h => ∃ oe vs, h.get? a = some oe ∧ Zc cls d oe ∧ oe.data = .fields vs
/-- a heap that keeps what can be read -/
structure Ex (F F' : Hp) : Prop where
  rd : ∀ a u, Rd F a u → Rd F' a u
  stb : ∀ a u, Stb u → F a = some u → F' a = some u
  frz : ∀ a o u, F a = some (.frz o u) → F' a = some (.frz o u)
theorem Ex.ins {F F' : Hp} (e : Ex F F') (a : Addr) (C dx : Addr) (fs : List (Str × V)) (h : F a = some (.ins C dx fs)) : F' a = some (.ins C dx fs) := e.stb a _ trivial h
theorem Ex.refl (F : Hp) : Ex F F := ⟨fun _ _ h => h, fun _ _ _ h => h, fun _ _ _ h => h⟩
theorem Ex.trans {F F1 F2 : Hp} (a : Ex F F1) (b : Ex F1 F2) : Ex F F2 := ⟨fun x u h => b.rd x u (a.rd x u h), fun x u q h => b.stb x u q (a.stb x u q h), fun x o u h => b.frz x o u (a.frz x o u h)⟩
theorem Ex.of_same {F F' : Hp} (h : Same F F') : Ex F F' := ⟨fun a u r => by
  rcases r with r | ⟨o, r⟩
  · exact .inl (h _ _ r)
  · exact .inr ⟨o, h _ _ r⟩, fun a u _ r => h _ _ r, fun a o u r => h _ _ r⟩
theorem Ex.nn {F F' : Hp} (e : Ex F F') {a : Addr} (h : F' a = none) : F a = none := by
  cases q : F a with
  | none => rfl
  | some u =>
    rcases e.rd a u (.inl q) with r | ⟨o, r⟩
    · rw [h] at r; cases r
    · rw [h] at r; cases r
theorem Ex.sqL {K : PySem.W.Frag} {F F' : Hp} (e : Ex F F') {a : Addr} {xs : List V} (h : SqL K F a xs) : SqL K F' a xs := h.imp (fun r => e.rd _ _ r) id
theorem Ex.sqT {K : PySem.W.Frag} {F F' : Hp} (e : Ex F F') {a : Addr} {xs : List V} (h : SqT K F a xs) : SqT K F' a xs := h.imp (fun r => e.rd _ _ r) id
theorem Ex.lay {H : Hp} {a : Addr} {o : HO} (h : H a = none) : Ex H (L2.upd H a o) := Ex.of_same fun b u e => by rw [upd_ne (ne_of_none e h)]; exact e

section
variable (cl : Nat → Option Addr) (K : PySem.W.Frag)
mutual
inductive Rep (H : Hp) : V → D → Prop
  | non : Rep H .non .non
  | bl (b : Bool) : Rep H (.bl b) (.bl b)
  | int (i : Int) : Rep H (.int i) (.int i)
  | str (s : Str) : Rep H (.str s) (.str s)
  | tup {a : Addr} {vs : List V} {ds : List D} : SqT K H a vs → Reps H vs ds → Rep H (.ref a) (.tup ds)
  | lst {a : Addr} {vs : List V} {ds : List D} : SqL K H a vs → Reps H vs ds → Rep H (.ref a) (.lst ds)
  | dct {a : Addr} {ps : List (Key × V)} {kvs : List (D × D)} {o : Obj} : H a = some (.frz o (.dK ps)) → RepK H ps kvs → Rep H (.ref a) (.dct kvs)
  | obj {a C dx : Addr} {gs : List (Str × V)} {c : Nat} {fs : List (Str × D)} : H a = some (.ins C dx gs) → cl c = some C → RepF H gs fs → Rep H (.ref a) (.obj c fs)
  | exc0 {a C : Addr} {c : Nat} : H a = some (ExV (.ref C) none a) → cl c = some C → Rep H (.ref a) (.exc c [])
  | excF {a C dx : Addr} {gs : List (Str × V)} {c : Nat} {fs : List (Str × D)} : H a = some (ExV (.ref C) (some dx) a) → cl c = some C → H dx = some (.xd gs) → RepF H gs fs → Rep H (.ref a) (.exc c fs)
inductive Reps (H : Hp) : List V → List D → Prop
  | nil : Reps H [] []
  | cons {v : V} {vs : List V} {d : D} {ds : List D} : Rep H v d → Reps H vs ds → Reps H (v :: vs) (d :: ds)
inductive RepK (H : Hp) : List (Key × V) → List (D × D) → Prop
  | nil : RepK H [] []
  | cons {k : Key} {v : V} {ps : List (Key × V)} {d : D} {kvs : List (D × D)} : Rep H v d → RepK H ps kvs → RepK H ((k, v) :: ps) ((keyD k, d) :: kvs)
inductive RepF (H : Hp) : List (Str × V) → List (Str × D) → Prop
  | nil : RepF H [] []
  | cons {x : Str} {v : V} {ps : List (Str × V)} {d : D} {fs : List (Str × D)} : Rep H v d → RepF H ps fs → RepF H ((x, v) :: ps) ((x, d) :: fs)
end
end

section
variable {cl : Nat → Option Addr} {K : PySem.W.Frag} {F F' G H H' : Hp}
mutual
theorem Rep.mono (e : Ex F F') : ∀ {v : V} {d : D}, Rep cl K F v d → Rep cl K F' v d
  | _, _, .non => .non
  | _, _, .bl b => .bl b
  | _, _, .int b => .int b
  | _, _, .str b => .str b
  | _, _, .tup h r => .tup (e.sqT h) (Reps.mono e r)
  | _, _, .lst h r => .lst (e.sqL h) (Reps.mono e r)
  | _, _, .dct h r => .dct (e.frz _ _ _ h) (RepK.mono e r)
  | _, _, .obj h c r => .obj (e.ins _ _ _ _ h) c (RepF.mono e r)
  | _, _, .exc0 h c => .exc0 (e.stb _ _ trivial h) c
  | _, _, .excF h c x r => .excF (e.stb _ _ trivial h) c (e.stb _ _ trivial x) (RepF.mono e r)
theorem Reps.mono (e : Ex F F') : ∀ {v : List V} {d : List D}, Reps cl K F v d → Reps cl K F' v d
  | _, _, .nil => .nil
  | _, _, .cons h r => .cons (Rep.mono e h) (Reps.mono e r)
theorem RepK.mono (e : Ex F F') : ∀ {v : List (Key × V)} {d : List (D × D)}, RepK cl K F v d → RepK cl K F' v d
  | _, _, .nil => .nil
  | _, _, .cons h r => .cons (Rep.mono e h) (RepK.mono e r)
theorem RepF.mono (e : Ex F F') : ∀ {v : List (Str × V)} {d : List (Str × D)}, RepF cl K F v d → RepF cl K F' v d
  | _, _, .nil => .nil
  | _, _, .cons h r => .cons (Rep.mono e h) (RepF.mono e r)
end
theorem Reps.length : ∀ {vs : List V} {ds : List D}, Reps cl K F vs ds → vs.length = ds.length
  | _, _, .nil => rfl
  | _, _, .cons _ r => by simp [Reps.length r]
theorem Reps.append : ∀ {vs : List V} {ds : List D} {vs' : List V} {ds' : List D}, Reps cl K F vs ds → Reps cl K F vs' ds' → Reps cl K F (vs ++ vs') (ds ++ ds')
  | _, _, _, _, .nil, s => s
  | _, _, _, _, .cons h r, s => .cons h (Reps.append r s)
theorem Reps.take : ∀ {vs : List V} {ds : List D} (n : Nat), Reps cl K F vs ds → Reps cl K F (vs.take n) (ds.take n)
  | _, _, 0, _ => by simp; exact .nil
  | _, _, n + 1, .nil => by simp; exact .nil
  | _, _, n + 1, .cons h r => by simp; exact .cons h (Reps.take n r)
theorem Reps.drop : ∀ {vs : List V} {ds : List D} (n : Nat), Reps cl K F vs ds → Reps cl K F (vs.drop n) (ds.drop n)
  | _, _, 0, h => by simpa using h
  | _, _, n + 1, .nil => by simp; exact .nil
  | _, _, n + 1, .cons h r => by simp; exact Reps.drop n r
theorem Reps.get : ∀ {vs : List V} {ds : List D} {n : Nat} {d : D}, Reps cl K F vs ds → ds[n]? = some d → ∃ v, vs[n]? = some v ∧ Rep cl K F v d
  | _, _, _, _, .nil, e => by simp at e
  | _, _, 0, _, .cons h r, e => by simp at e; subst e; exact ⟨_, rfl, h⟩
  | _, _, n + 1, _, .cons h r, e => by simp at e; simpa using Reps.get r e
theorem Reps.getV : ∀ {vs : List V} {ds : List D} {n : Nat} {v : V}, Reps cl K F vs ds → vs[n]? = some v → ∃ d, ds[n]? = some d ∧ Rep cl K F v d
  | _, _, _, _, .nil, e => by simp at e
  | _, _, 0, _, .cons h r, e => by simp at e; subst e; exact ⟨_, rfl, h⟩
  | _, _, n + 1, _, .cons h r, e => by simp at e; simpa using Reps.getV r e
theorem Reps.set : ∀ {vs : List V} {ds : List D} (n : Nat) {v : V} {d : D}, Reps cl K F vs ds → Rep cl K F v d → Reps cl K F (vs.set n v) (ds.set n d)
  | _, _, _, _, _, .nil, _ => .nil
  | _, _, 0, _, _, .cons h r, s => .cons s r
  | _, _, n + 1, _, _, .cons h r, s => .cons h (Reps.set n r s)
theorem Reps.eraseIdx : ∀ {vs : List V} {ds : List D} (n : Nat), Reps cl K F vs ds → Reps cl K F (vs.eraseIdx n) (ds.eraseIdx n)
  | _, _, _, .nil => by simp; exact .nil
  | _, _, 0, .cons h r => by simpa using r
  | _, _, n + 1, .cons h r => by simp; exact .cons h (Reps.eraseIdx n r)
theorem Reps.dropLast : ∀ {vs : List V} {ds : List D}, Reps cl K F vs ds → Reps cl K F vs.dropLast ds.dropLast
  | _, _, .nil => .nil
  | _, _, .cons h .nil => .nil
  | _, _, .cons h (.cons h' r) => .cons h (Reps.dropLast (.cons h' r))
theorem Reps.reverse : ∀ {vs : List V} {ds : List D}, Reps cl K F vs ds → Reps cl K F vs.reverse ds.reverse
  | _, _, .nil => .nil
  | _, _, .cons h r => by simp only [List.reverse_cons]; exact Reps.append (Reps.reverse r) (.cons h .nil)
theorem Reps.rept {vs : List V} {ds : List D} (h : Reps cl K F vs ds) : ∀ n : Nat, Reps cl K F (List.replicate n vs).flatten (rept n ds)
  | 0 => .nil
  | n + 1 => by simp only [IV.rept, List.replicate_succ, List.flatten_cons]; exact Reps.append h (Reps.rept h n)
theorem Reps.one {v : V} {d : D} (h : Rep cl K F v d) : Reps cl K F [v] [d] := .cons h .nil
theorem Reps.ints : ∀ {vs : List V} {ds : List D} {ns : List Int}, Reps cl K F vs ds → dInts ds = some ns → vs = ns.map V.int
  | _, _, _, .nil, e => by simp [dInts] at e; subst e; rfl
  | _, _, _, .cons (.int i) r, e => by
    simp [dInts] at e
    obtain ⟨m, e1, rfl⟩ := e
    rw [Reps.ints r e1]; rfl
  | _, _, _, .cons .non r, e => by simp [dInts] at e
  | _, _, _, .cons (.bl _) r, e => by simp [dInts] at e
  | _, _, _, .cons (.str _) r, e => by simp [dInts] at e
  | _, _, _, .cons (.tup _ _) r, e => by simp [dInts] at e
  | _, _, _, .cons (.lst _ _) r, e => by simp [dInts] at e
  | _, _, _, .cons (.dct _ _) r, e => by simp [dInts] at e
  | _, _, _, .cons (.obj _ _ _) r, e => by simp [dInts] at e
  | _, _, _, .cons (.exc0 _ _) r, e => by simp [dInts] at e
  | _, _, _, .cons (.excF _ _ _ _) r, e => by simp [dInts] at e
theorem Reps.strs : ∀ {vs : List V} {ds : List D} {ns : List Str}, Reps cl K F vs ds → dStrs ds = some ns → vs = ns.map V.str
  | _, _, _, .nil, e => by simp [dStrs] at e; subst e; rfl
  | _, _, _, .cons (.str i) r, e => by
    simp [dStrs] at e
    obtain ⟨m, e1, rfl⟩ := e
    rw [Reps.strs r e1]; rfl
  | _, _, _, .cons .non r, e => by simp [dStrs] at e
  | _, _, _, .cons (.bl _) r, e => by simp [dStrs] at e
  | _, _, _, .cons (.int _) r, e => by simp [dStrs] at e
  | _, _, _, .cons (.tup _ _) r, e => by simp [dStrs] at e
  | _, _, _, .cons (.lst _ _) r, e => by simp [dStrs] at e
  | _, _, _, .cons (.dct _ _) r, e => by simp [dStrs] at e
  | _, _, _, .cons (.obj _ _ _) r, e => by simp [dStrs] at e
  | _, _, _, .cons (.exc0 _ _) r, e => by simp [dStrs] at e
  | _, _, _, .cons (.excF _ _ _ _) r, e => by simp [dStrs] at e
theorem Reps.bools : ∀ {vs : List V} {ds : List D} {ns : List Bool}, Reps cl K F vs ds → bools ds = some ns → vs = ns.map V.bl
  | _, _, _, .nil, e => by simp [IV.bools] at e; subst e; rfl
  | _, _, _, .cons (.bl i) r, e => by
    simp [IV.bools] at e
    obtain ⟨m, e1, rfl⟩ := e
    rw [Reps.bools r e1]; rfl
  | _, _, _, .cons .non r, e => by simp [IV.bools] at e
  | _, _, _, .cons (.str _) r, e => by simp [IV.bools] at e
  | _, _, _, .cons (.int _) r, e => by simp [IV.bools] at e
  | _, _, _, .cons (.tup _ _) r, e => by simp [IV.bools] at e
  | _, _, _, .cons (.lst _ _) r, e => by simp [IV.bools] at e
  | _, _, _, .cons (.dct _ _) r, e => by simp [IV.bools] at e
  | _, _, _, .cons (.obj _ _ _) r, e => by simp [IV.bools] at e
  | _, _, _, .cons (.exc0 _ _) r, e => by simp [IV.bools] at e
  | _, _, _, .cons (.excF _ _ _ _) r, e => by simp [IV.bools] at e
theorem Reps.of_ints : ∀ ns : List Int, Reps cl K F (ns.map V.int) (ns.map D.int)
  | [] => .nil
  | i :: r => .cons (.int i) (Reps.of_ints r)
theorem Reps.of_strs : ∀ ns : List Str, Reps cl K F (ns.map V.str) (ns.map D.str)
  | [] => .nil
  | i :: r => .cons (.str i) (Reps.of_strs r)
theorem RepK.length : ∀ {ps : List (Key × V)} {kvs : List (D × D)}, RepK cl K F ps kvs → ps.length = kvs.length
  | _, _, .nil => rfl
  | _, _, .cons _ r => by simp [RepK.length r]
theorem RepK.keys : ∀ {ps : List (Key × V)} {kvs : List (D × D)}, RepK cl K F ps kvs → kvs.map (·.1) = ps.map fun p => keyD p.1
  | _, _, .nil => rfl
  | _, _, .cons _ r => by simp [RepK.keys r]
theorem rep_key (k : Key) : Rep cl K F (kV k) (keyD k) := by
  cases k with
  | inl i => exact .int i
  | inr s => exact .str s
theorem RepK.keyReps : ∀ {ps : List (Key × V)} {kvs : List (D × D)}, RepK cl K F ps kvs → Reps cl K F (ps.map fun p => kV p.1) (kvs.map (·.1))
  | _, _, .nil => .nil
  | _, _, .cons _ r => .cons (rep_key _) (RepK.keyReps r)
end

/-! ### objects that one name owns -/
section
variable (cl : Nat → Option Addr) (K : PySem.W.Frag)
def OwnAt (F H : Hp) (a : Addr) : D → Prop
  | .lst xs => ∃ vs, H a = some (.lst vs) ∧ Reps cl K F vs xs
  | .dct kvs => ∃ ps, H a = some (.dK ps) ∧ RepK cl K F ps kvs
  | .obj c fs => ∃ C dx gs, H a = some (.ins C dx gs) ∧ cl c = some C ∧ RepF cl K F gs fs
  | _ => False
def EntOk (F G H : Hp) (ov : Option (Option V)) : Ent → Prop
  | .no => True
  | .fz d => ∃ v, ov = some (some v) ∧ Rep cl K F v d
  | .ow d => ∃ a, ov = some (some (.ref a)) ∧ F a = none ∧ G a = none ∧ OwnAt cl K F H a d
/-- the name i owns the object at a -/
def Owns (env : Env) (σ : St) (i : Nat) (a : Addr) : Prop := (∃ d, getE env i = .ow d) ∧ σ[i]? = some (some (.ref a))
/-- F: what never changes; G: what is none of ours -/
structure StOk (env : Env) (σ : St) (F G H : Hp) : Prop where
  fh : Ex F H
  gh : Same G H
  fg : ∀ a, F a ≠ none → G a = none
  len : env.length = σ.length
  ent : ∀ i, EntOk cl K F G H σ[i]? (getE env i)
  sep : ∀ i j a, i ≠ j → Owns env σ i a → Owns env σ j a → False
/-- what a value is: told by itself, or by the name that owns it -/
def RV (F : Hp) (σ : St) (v : V) : D → Prop
  | .own i => σ[i]? = some (some v)
  | d => Rep cl K F v d
/-- what a value is at this moment -/
def RX (F H : Hp) (v : V) (d : D) : Prop := Rep cl K F v d ∨ ∃ a, v = .ref a ∧ OwnAt cl K F H a d
end
section
variable {cl : Nat → Option Addr} {K : PySem.W.Frag} {F F' G H H' : Hp} {env : Env} {σ : St}
theorem OwnAt.mono (e : Ex F F') {a : Addr} {d : D} (h : OwnAt cl K F H a d) : OwnAt cl K F' H a d := by
  cases d with
  | lst xs => obtain ⟨vs, h1, h2⟩ := h; exact ⟨vs, h1, h2.mono e⟩
  | dct xs => obtain ⟨vs, h1, h2⟩ := h; exact ⟨vs, h1, h2.mono e⟩
  | obj c fs => obtain ⟨C, dx, gs, h1, h2, h3⟩ := h; exact ⟨C, dx, gs, h1, h2, h3.mono e⟩
  | _ => exact h.elim
theorem OwnAt.at {a : Addr} {d : D} (h : OwnAt cl K F H a d) (e : H' a = H a) : OwnAt cl K F H' a d := by
  cases d with
  | lst xs => obtain ⟨vs, h1, h2⟩ := h; exact ⟨vs, e.trans h1, h2⟩
  | dct xs => obtain ⟨vs, h1, h2⟩ := h; exact ⟨vs, e.trans h1, h2⟩
  | obj c fs => obtain ⟨C, dx, gs, h1, h2, h3⟩ := h; exact ⟨C, dx, gs, e.trans h1, h2, h3⟩
  | _ => exact h.elim
theorem OwnAt.there {a : Addr} {d : D} (h : OwnAt cl K F H a d) : H a ≠ none := by
  cases d with
  | lst xs => obtain ⟨vs, h1, h2⟩ := h; rw [h1]; simp
  | dct xs => obtain ⟨vs, h1, h2⟩ := h; rw [h1]; simp
  | obj c fs => obtain ⟨C, dx, gs, h1, h2, h3⟩ := h; rw [h1]; simp
  | _ => exact h.elim
theorem EntOk.mono {ov : Option (Option V)} {e : Ent} (x : Ex F F') (hf : ∀ a, ov = some (some (.ref a)) → F' a = none ∨ F a ≠ none ∨ G a ≠ none ∨ ∀ d, e ≠ .ow d) (hh : ∀ a d, e = .ow d → ov = some (some (.ref a)) → H' a = H a) (h : EntOk cl K F G H ov e) : EntOk cl K F' G H' ov e := by
  cases e with
  | no => trivial
  | fz d => obtain ⟨v, e, r⟩ := h; exact ⟨v, e, r.mono x⟩
  | ow d =>
    obtain ⟨a, e, h1, h2, h3⟩ := h
    refine ⟨a, e, ?_, h2, (h3.mono x).at (hh a d rfl e)⟩
    rcases hf a e with z | z | z | z
    · exact z
    · exact absurd h1 z
    · exact absurd h2 z
    · exact absurd rfl (z d)
/-- a new object that never changes: frozen at once -/
theorem StOk.lay (S : StOk cl K env σ F G H) {p : Addr} {o : HO} (hp : H p = none) : Ex F (upd F p o) ∧ StOk cl K env σ (upd F p o) G (upd H p o) := by
  have fp : F p = none := S.fh.nn hp
  have gp : G p = none := by
    cases q : G p with
    | none => rfl
    | some u => rw [S.gh _ _ q] at hp; cases hp
  have e1 : Ex F (upd F p o) := Ex.lay fp
  refine ⟨e1, ⟨⟨fun a u r => ?_, fun a u hu r => ?_, fun a ob u r => ?_⟩, fun a u r => ?_, fun a h => ?_, S.len, fun i => ?_, S.sep⟩⟩
  · by_cases ha : a = p
    · subst ha
      rcases r with r | ⟨ob, r⟩
      · rw [upd_same] at r; cases r; exact .inl upd_same
      · rw [upd_same] at r; cases r; exact .inr ⟨ob, upd_same⟩
    · have r' : Rd F a u := by
        rcases r with r | ⟨ob, r⟩
        · rw [upd_ne ha] at r; exact .inl r
        · rw [upd_ne ha] at r; exact .inr ⟨ob, r⟩
      rcases S.fh.rd a u r' with q | ⟨ob, q⟩
      · exact .inl (by rw [upd_ne ha]; exact q)
      · exact .inr ⟨ob, by rw [upd_ne ha]; exact q⟩
  · by_cases ha : a = p
    · subst ha; rw [upd_same] at r ⊢; exact r
    · rw [upd_ne ha] at r ⊢; exact S.fh.stb _ _ hu r
  · by_cases ha : a = p
    · subst ha; rw [upd_same] at r ⊢; exact r
    · rw [upd_ne ha] at r ⊢; exact S.fh.frz _ _ _ r
  · have ha : a ≠ p := fun z => by subst z; rw [gp] at r; cases r
    rw [upd_ne ha]; exact S.gh _ _ r
  · by_cases ha : a = p
    · subst ha; exact gp
    · rw [upd_ne ha] at h; exact S.fg a h
  · refine (S.ent i).mono e1 (fun a ea => ?_) (fun a d ee ea => ?_)
    · by_cases ha : a = p
      · subst ha
        refine .inr (.inr (.inr fun d z => ?_))
        have q := S.ent i
        rw [z] at q
        obtain ⟨b, eb, _, _, q⟩ := q
        rw [ea] at eb
        cases eb
        exact q.there hp
      · by_cases hf : F a = none
        · exact .inl (by rw [upd_ne ha]; exact hf)
        · exact .inr (.inl hf)
    · have q := S.ent i
      rw [ee] at q
      obtain ⟨b, eb, _, _, q⟩ := q
      rw [ea] at eb
      cases eb
      rw [upd_ne (fun z => q.there (by rw [z]; exact hp))]
/-- a new object that is not frozen yet -/
theorem StOk.new (S : StOk cl K env σ F G H) {p : Addr} {o : HO} (hp : H p = none) : StOk cl K env σ F G (upd H p o) ∧ F p = none ∧ G p = none ∧ ∀ i, ¬ Owns env σ i p := by
  have fp : F p = none := S.fh.nn hp
  have gp : G p = none := by
    cases q : G p with
    | none => rfl
    | some u => rw [S.gh _ _ q] at hp; cases hp
  have own : ∀ i, ¬ Owns env σ i p := fun i ⟨⟨d, e⟩, ea⟩ => by
    have q := S.ent i
    rw [e] at q
    obtain ⟨b, eb, _, _, q⟩ := q
    rw [ea] at eb
    cases eb
    exact q.there hp
  refine ⟨⟨S.fh.trans (Ex.lay hp), fun a u r => ?_, S.fg, S.len, fun i => ?_, S.sep⟩, fp, gp, own⟩
  · have ha : a ≠ p := fun z => by subst z; rw [gp] at r; cases r
    rw [upd_ne ha]; exact S.gh _ _ r
  · refine (S.ent i).mono (Ex.refl F) (fun a ea => ?_) (fun a d ee ea => ?_)
    · by_cases hf : F a = none
      · exact .inl hf
      · exact .inr (.inl hf)
    · rw [upd_ne]
      rintro rfl
      exact own i ⟨⟨d, ee⟩, ea⟩
/-- an object is frozen: as it stands, or locked -/
theorem StOk.freezeAs (S : StOk cl K env σ F G H) {p : Addr} {u o : HO} (fp : F p = none) (gp : G p = none) (own : ∀ i, ¬ Owns env σ i p) (ho : H p = some u) : Ex F (upd F p o) ∧ StOk cl K env σ (upd F p o) G (upd H p o) := by
  have e1 : Ex F (upd F p o) := Ex.lay fp
  refine ⟨e1, ⟨⟨fun a u r => ?_, fun a u hu r => ?_, fun a ob u r => ?_⟩, fun a u r => ?_, fun a h => ?_, S.len, fun i => ?_, S.sep⟩⟩
  · by_cases ha : a = p
    · subst ha
      rcases r with r | ⟨ob, r⟩
      · rw [upd_same] at r; cases r; exact .inl upd_same
      · rw [upd_same] at r; cases r; exact .inr ⟨ob, upd_same⟩
    · have r' : Rd F a u := by
        rcases r with r | ⟨ob, r⟩
        · rw [upd_ne ha] at r; exact .inl r
        · rw [upd_ne ha] at r; exact .inr ⟨ob, r⟩
      rcases S.fh.rd a u r' with q | ⟨ob, q⟩
      · exact .inl (by rw [upd_ne ha]; exact q)
      · exact .inr ⟨ob, by rw [upd_ne ha]; exact q⟩
  · by_cases ha : a = p
    · subst ha; rw [upd_same] at r ⊢; exact r
    · rw [upd_ne ha] at r ⊢; exact S.fh.stb _ _ hu r
  · by_cases ha : a = p
    · subst ha; rw [upd_same] at r ⊢; exact r
    · rw [upd_ne ha] at r ⊢; exact S.fh.frz _ _ _ r
  · have ha : a ≠ p := fun z => by subst z; rw [gp] at r; cases r
    rw [upd_ne ha]; exact S.gh _ _ r
  · by_cases ha : a = p
    · subst ha; exact gp
    · rw [upd_ne ha] at h; exact S.fg a h
  · refine (S.ent i).mono e1 (fun a ea => ?_) (fun a d ee ea => ?_)
    · by_cases ha : a = p
      · subst ha
        exact .inr (.inr (.inr fun d z => own i ⟨⟨d, z⟩, ea⟩))
      · by_cases hf : F a = none
        · exact .inl (by rw [upd_ne ha]; exact hf)
        · exact .inr (.inl hf)
    · rw [upd_ne]
      rintro rfl
      exact own i ⟨⟨d, ee⟩, ea⟩
def isDct : D → Bool
  | .dct _ => true
  | _ => false
theorem upd_id {H : Hp} {p : Addr} {o : HO} (h : H p = some o) : upd H p o = H := by
  funext b
  by_cases hb : b = p
  · subst hb; rw [upd_same, h]
  · rw [upd_ne hb]
theorem StOk.freeze (S : StOk cl K env σ F G H) {p : Addr} {d : D} (fp : F p = none) (gp : G p = none) (own : ∀ i, ¬ Owns env σ i p) (h : OwnAt cl K F H p d) (hd : isDct d = false) : ∃ F', Ex F F' ∧ StOk cl K env σ F' G H ∧ Rep cl K F' (.ref p) d := by
  obtain ⟨o, ho⟩ : ∃ o, H p = some o := by
    cases q : H p with
    | none => exact absurd q h.there
    | some o => exact ⟨o, rfl⟩
  obtain ⟨e1, S1⟩ := S.freezeAs (o := o) fp gp own ho
  rw [upd_id ho] at S1
  refine ⟨upd F p o, e1, S1, ?_⟩
  have hd' := h.mono e1
  cases d with
  | lst xs =>
    obtain ⟨vs, h1, h2⟩ := hd'
    rw [ho] at h1; cases h1
    exact .lst (.inl (.inl upd_same)) h2
  | dct xs => cases hd
  | obj c fs =>
    obtain ⟨C, dx, gs, h1, h2, h3⟩ := hd'
    rw [ho] at h1; cases h1
    exact .obj upd_same h2 h3
  | _ => exact h.elim
theorem StOk.freezeD (S : StOk cl K env σ F G H) {p : Addr} {kvs : List (D × D)} (fp : F p = none) (gp : G p = none) (own : ∀ i, ¬ Owns env σ i p) (h : OwnAt cl K F H p (.dct kvs)) :
    ∃ u, H p = some u ∧ Mut (some u) ∧ ∀ od, ∃ F', Ex F F' ∧ StOk cl K env σ F' G (upd H p (.frz od u)) ∧ Rep cl K F' (.ref p) (.dct kvs) := by
  obtain ⟨ps, h1, h2⟩ := h
  refine ⟨.dK ps, h1, trivial, fun od => ?_⟩
  obtain ⟨e1, S1⟩ := S.freezeAs (o := .frz od (.dK ps)) fp gp own h1
  exact ⟨_, e1, S1, .dct upd_same (h2.mono e1)⟩
end
end IV

set_option linter.all false
set_option Elab.async false
set_option maxRecDepth 100000
/-! IV2: what a run promises; expressions of one, two, three parts (own work). -/
namespace IV
open PySem L2

/-- the program as it stands: its text, what is written, and its defs and constants by number -/
structure Mdl where
  P : Program
  w : World
  K : PySem.W.Frag
  mg : Str → Option Value
  base : Heap
  T : Tab
  cl : Nat → Option Addr
  fnm : Nat → Str
  gnm : Nat → Str
  pnm : Nat → List Str
  /-- classes by number: name, value; which may be raised without arguments -/
  cnm : Nat → Str
  cv : Nat → Option Value
  rs : Nat → Bool

/-- the place where a piece of text stands: names by slot, the scope, the names that can be bound -/
structure Plc where
  N : List Str
  sc : Scope
  lc : Str → Bool
  /-- a def's own block, not a comprehension's -/
  top : Bool

structure Good (M : Mdl) (k : Nat) (p : Plc) (W : WX) (X : Cx) : Prop where
  prog : X.prog = M.P
  w : X.w = M.w
  K : X.K = M.K
  mg : X.mg = M.mg
  base : X.base = M.base
  names : X.N = p.N
  nd : p.N.Nodup
  scope : X.env.scope = p.sc
  calm : X.calm = true
  room : Room k X.A
  takes : Takes X W
  own : PassesOwn (model X.prog X.w) X.A X.env X.xe
  loc : ∀ x, p.lc x = true → Loc X.env.scope x ∧ (X.fn x = true ∨ X.env.scope.names.lookup x = some .local)
  fr : p.top = true → X.stack = X.env :: X.outer ∧ X.env.frame = some X.env.locals ∧ X.ex = []

def XOk (M : Mdl) (F H : Hp) (cls : Value) (dd : Option Addr) (c : Nat) (fs : List (Str × D)) : Prop :=
  ∃ C, cls = .ref C ∧ M.cl c = some C ∧ ((dd = none ∧ fs = []) ∨ ∃ dx gs, dd = some dx ∧ F dx = some (.xd gs) ∧ IV.RepF M.cl M.K F gs fs)

abbrev Mdl.Rep (M : Mdl) := IV.Rep M.cl M.K
abbrev Mdl.Reps (M : Mdl) := IV.Reps M.cl M.K
abbrev Mdl.RepK (M : Mdl) := IV.RepK M.cl M.K
abbrev Mdl.St (M : Mdl) := IV.StOk M.cl M.K
abbrev Mdl.RV (M : Mdl) := IV.RV M.cl M.K
abbrev Mdl.RX (M : Mdl) := IV.RX M.cl M.K

/-- what is wanted of what comes of a run -/
def Post {α : Type} (M : Mdl) (W : WX) (σ : St) (F G : Hp) (P : α → Env → Hp → Hp → Prop) : R (α × Env) → Prop
  | .ok p => ∀ F' H', Ex F F' → M.St p.2 σ F' G H' → P p.1 p.2 F' H'
  | .ex c fs e => ∀ cls dd F' H', Ex F F' → M.St e σ F' G H' → XOk M F' H' cls dd c fs → W cls dd σ H'
  | .no => False

section
variable {α β : Type} {M : Mdl} {W : WX} {σ : St} {F F1 G : Hp}
theorem Post.grow {P : α → Env → Hp → Hp → Prop} {r : R (α × Env)} (h : Post M W σ F G P r) (e : Ex F F1) : Post M W σ F1 G P r := by
  cases r with
  | ok p => exact fun F' H' x S => h F' H' (e.trans x) S
  | ex c fs ev => exact fun cls dd F' H' x S => h cls dd F' H' (e.trans x) S
  | no => exact h
/-- one run after another -/
theorem Post.bind {P : α → Env → Hp → Hp → Prop} {P' : β → Env → Hp → Hp → Prop} {r : R (α × Env)} {f : α × Env → R (β × Env)} (h : Post M W σ F G P' (r.bind f))
    (k : ∀ a env F1 H1, r = .ok (a, env) → Ex F F1 → M.St env σ F1 G H1 → Post M W σ F1 G P' (f (a, env)) → P a env F1 H1) : Post M W σ F G P r := by
  cases r with
  | ok p => exact fun F' H' x S => k p.1 p.2 F' H' rfl x S (Post.grow h x)
  | ex c fs ev => exact h
  | no => exact h
theorem Post.of {γ : Type} {P : β → Env → Hp → Hp → Prop} {o : Option γ} {f : γ → R (β × Env)} (h : Post M W σ F G P ((R.of o).bind f)) : ∃ a, o = some a ∧ Post M W σ F G P (f a) := by
  cases o with
  | some a => exact ⟨a, rfl, h⟩
  | none => exact h.elim
theorem Post.imp {P P' : α → Env → Hp → Hp → Prop} {r : R (α × Env)} (h : Post M W σ F G P r) (k : ∀ a env F' H', P a env F' H' → P' a env F' H') : Post M W σ F G P' r := by
  cases r with
  | ok p => exact fun F' H' x S => k _ _ _ _ (h F' H' x S)
  | ex c fs ev => exact h
  | no => exact h
theorem Post.ok {P : β → Env → Hp → Hp → Prop} {b : β} {env : Env} {F' H' : Hp} (h : Post M W σ F G P (.ok (b, env))) (x : Ex F F') (S : M.St env σ F' G H') : P b env F' H' := h F' H' x S
theorem Post.ite {P : β → Env → Hp → Hp → Prop} {c : Bool} {r : R (β × Env)} (h : Post M W σ F G P (if c = true then .no else r)) : c = false ∧ Post M W σ F G P r := by
  cases c with
  | true => exact h.elim
  | false => exact ⟨rfl, h⟩
end

/-- expressions, tests, lists of arguments as the model runs them -/
def sE (X : Cx) (e : Expr) : TE := fun σ H Q => ∀ (pins : List (Addr × Obj)) (s : Shared), Inv X pins σ H s → wpAny (model X.prog X.w) X.A (eval e X.env) (EP X pins σ Q) X.xe s
def sT (X : Cx) (e : Expr) : TT := fun σ H Q => ∀ (pins : List (Addr × Obj)) (s : Shared), Inv X pins σ H s → wpAny (model X.prog X.w) X.A (isTrue e X.env (eval e X.env)) (TP X pins σ Q) X.xe s
def sA (X : Cx) (es : List Expr) : TA := fun σ H Q => ∀ (pos : Pos) (pins : List (Addr × Obj)) (s : Shared), Inv X pins σ H s → wpAny (model X.prog X.w) X.A (spliced (backTo pos (starEach es X.env))) (AP X pins σ Q) X.xe s
theorem peS (X : Cx) (e : Expr) : PE X e (sE X e) := ⟨fun pins s _ _ _ I h => h pins s I⟩
theorem ptS (X : Cx) (e : Expr) : PT X e (sT X e) := ⟨fun pins s _ _ _ I h => h pins s I⟩
theorem paS (X : Cx) (e : List Expr) : PA X e (sA X e) := ⟨fun pos pins s _ _ _ I h => h pos pins s I⟩
theorem sE_of {X : Cx} {e : Expr} {t : TE} (h : PE X e t) {σ : St} {H : Hp} {Q : VK} (q : t σ H Q) : sE X e σ H Q := fun pins s I => h.run pins s σ H Q I q
theorem sT_of {X : Cx} {e : Expr} {t : TT} (h : PT X e t) {σ : St} {H : Hp} {Q : Bool → Hp → Prop} (q : t σ H Q) : sT X e σ H Q := fun pins s I => h.run pins s σ H Q I q
theorem sA_of {X : Cx} {e : List Expr} {t : TA} (h : PA X e t) {σ : St} {H : Hp} {Q : List V → Hp → Prop} (q : t σ H Q) : sA X e σ H Q := fun pos pins s I => h.run pos pins s σ H Q I q

section
variable (M : Mdl) (k : Nat) (p : Plc) (lk : Lk)
/-- an expression does what the evaluator tells -/
def SE (e : Expr) (ie : IE) : Prop := ∀ (X : Cx) (W : WX), Good M k p W X → ∀ (env : Env) (σ : St) (F G H : Hp) (Q : VK), M.St env σ F G H →
  Post M W σ F G (fun d _ F' H' => ∀ v, M.RV F' σ v d → Q v H') (evE M.T (callF M.T k) lk ie env) → sE X e σ H Q
/-- .. and what it makes is nobody's yet -/
def PN (σ : St) (G : Hp) (Q : VK) (d : D) (env : Env) (F' H' : Hp) : Prop :=
  (isObj d = false → ∀ v, M.RV F' σ v d → Q v H') ∧ (isObj d = true → ∀ a, F' a = none → G a = none → (∀ i, ¬ Owns env σ i a) → OwnAt M.cl M.K F' H' a d → Q (.ref a) H')
def SN (e : Expr) (ie : IE) : Prop := ∀ (X : Cx) (W : WX), Good M k p W X → ∀ (env : Env) (σ : St) (F G H : Hp) (Q : VK), M.St env σ F G H →
  Post M W σ F G (fun d env' F' H' => PN M σ G Q d env' F' H') (evE M.T (callF M.T k) lk ie env) → sE X e σ H Q
def ST (e : Expr) (ie : IE) : Prop := ∀ (X : Cx) (W : WX), Good M k p W X → ∀ (env : Env) (σ : St) (F G H : Hp) (Q : Bool → Hp → Prop), M.St env σ F G H →
  Post M W σ F G (fun b _ _ H' => Q b H') ((evE M.T (callF M.T k) lk ie env).bind fun q => (R.of (truth (res q.2 q.1))).bind fun b => .ok (b, q.2)) → sT X e σ H Q
def SA (es : List Expr) (ies : List IE) : Prop := ∀ (X : Cx) (W : WX), Good M k p W X → ∀ (env : Env) (σ : St) (F G H : Hp) (Q : List V → Hp → Prop), M.St env σ F G H →
  Post M W σ F G (fun ds _ F' H' => ∀ vs, Paired (M.RV F' σ) vs ds → Q vs H') (evEs M.T (callF M.T k) lk ies env) → sA X es σ H Q
end

section
variable {M : Mdl} {k : Nat} {p : Plc} {lk : Lk} {X : Cx} {W : WX} {e a b c : Expr} {ie ia ib ic : IE} {pos : Pos} {F F' G H H' : Hp} {env : Env} {σ : St}

theorem rv_of {v : V} {d : D} (h : isOwn d = false) : M.RV F σ v d ↔ M.Rep F v d := by
  cases d with
  | own i => exact absurd (show true = false from h) (by decide)
  | _ => exact Iff.rfl
theorem rv_mono (x : Ex F F') {v : V} {d : D} (h : M.RV F σ v d) : M.RV F' σ v d := by
  cases d with
  | own i => exact h
  | _ => exact Rep.mono x h
theorem obj_noOwn {d : D} (h : isObj d = true) : isOwn d = false := by cases d <;> first | rfl | cases h

theorem Post.up {α : Type} {P P' : α → Env → Hp → Hp → Prop} {r : R (α × Env)} (h : Post M W σ F G P r)
    (k : ∀ a env F' H', Ex F F' → M.St env σ F' G H' → (∀ F'' H'', Ex F' F'' → M.St env σ F'' G H'' → P a env F'' H'') → P' a env F' H') : Post M W σ F G P' r := by
  cases r with
  | ok p => exact fun F' H' x S => k _ _ _ _ x S fun F'' H'' x' S' => h F'' H'' (x.trans x') S'
  | ex c fs ev => exact h
  | no => exact h
/-- a thing may be locked behind a run -/
theorem sE_lock {Q : VK} (h : sE X e σ H (fun v H' => Q v H' ∨ ∃ a u, H' a = some u ∧ Mut (some u) ∧ ∀ od, Q v (upd H' a (.frz od u)))) : sE X e σ H Q := fun pins s I =>
  thn (h pins s I) fun u s' ⟨v, H', I', r, q⟩ => by
    rcases q with q | ⟨a, o, h1, h2, q⟩
    · exact ⟨v, H', I', r, q⟩
    · obtain ⟨od, I2⟩ := I'.lock h1 h2
      exact ⟨v, _, I2, r, q od⟩
/-- what is new may be frozen at once -/
theorem SN.se (h : SN M k p lk e ie) : SE M k p lk e ie := by
  intro X W g env σ F G H Q S hp
  refine sE_lock (h X W g env σ F G H _ S (hp.up fun d env' F' H' x S' q => ⟨fun _ v r => .inl (q F' H' (Ex.refl _) S' v r), fun ho a fa ga na oa => ?_⟩))
  cases hd : isDct d with
  | false =>
    obtain ⟨F'', x2, S2, r⟩ := S'.freeze fa ga na oa hd
    exact .inl (q F'' H' x2 S2 (.ref a) ((rv_of (obj_noOwn ho)).mpr r))
  | true =>
    cases d with
    | dct kvs =>
      obtain ⟨u, h1, h2, h3⟩ := S'.freezeD fa ga na oa
      refine .inr ⟨a, u, h1, h2, fun od => ?_⟩
      obtain ⟨F'', x2, S2, r⟩ := h3 od
      exact q F'' _ x2 S2 (.ref a) r
    | _ => cases hd

/-! ### what a value is at a moment -/
theorem rx_of (S : M.St env σ F G H) {v : V} {d : D} (h : M.RV F σ v d) (hn : isOwn (res env d) = false) : M.RX F H v (res env d) := by
  cases d with
  | own i =>
    have h : σ[i]? = some (some v) := h
    have q := S.ent i
    simp only [res] at hn ⊢
    cases e : getE env i with
    | ow d' =>
      rw [e] at q
      obtain ⟨a, ea, _, _, oa⟩ := q
      rw [h] at ea
      cases ea
      exact .inr ⟨a, rfl, oa⟩
    | no => rw [e] at hn; exact absurd (show true = false from hn) (by decide)
    | fz d' => rw [e] at hn; exact absurd (show true = false from hn) (by decide)
  | _ => exact .inl h
theorem RX.lst {v : V} {xs : List D} (h : M.RX F H v (.lst xs)) (x : Ex F H) : ∃ a vs, v = .ref a ∧ SqL M.K H a vs ∧ M.Reps F vs xs := by
  rcases h with h | ⟨a, rfl, vs, h1, h2⟩
  · cases h with
    | lst h r => exact ⟨_, _, rfl, x.sqL h, r⟩
  · exact ⟨a, vs, rfl, .inl (.inl h1), h2⟩
theorem RX.tup {v : V} {xs : List D} (h : M.RX F H v (.tup xs)) (x : Ex F H) : ∃ a vs, v = .ref a ∧ SqT M.K H a vs ∧ M.Reps F vs xs ∧ SqT M.K F a vs := by
  rcases h with h | ⟨a, rfl, h1⟩
  · cases h with
    | tup h r => exact ⟨_, _, rfl, x.sqT h, r, h⟩
  · exact h1.elim
theorem RX.dct {v : V} {xs : List (D × D)} (h : M.RX F H v (.dct xs)) (x : Ex F H) : ∃ a vs, v = .ref a ∧ Rd H a (.dK vs) ∧ M.RepK F vs xs := by
  rcases h with h | ⟨a, rfl, vs, h1, h2⟩
  · cases h with
    | dct h r => exact ⟨_, _, rfl, .inr ⟨_, x.frz _ _ _ h⟩, r⟩
  · exact ⟨a, vs, rfl, .inl h1, h2⟩
theorem RX.int {v : V} {i : Int} (h : M.RX F H v (.int i)) : v = .int i := by
  rcases h with h | ⟨a, rfl, h1⟩
  · cases h; rfl
  · exact h1.elim
theorem RX.str {v : V} {i : Str} (h : M.RX F H v (.str i)) : v = .str i := by
  rcases h with h | ⟨a, rfl, h1⟩
  · cases h; rfl
  · exact h1.elim
theorem RX.bl {v : V} {i : Bool} (h : M.RX F H v (.bl i)) : v = .bl i := by
  rcases h with h | ⟨a, rfl, h1⟩
  · cases h; rfl
  · exact h1.elim
theorem RX.non {v : V} (h : M.RX F H v .non) : v = .non := by
  rcases h with h | ⟨a, rfl, h1⟩
  · cases h; rfl
  · exact h1.elim

/-! ### constants, names -/
def chkC : D → Const → Bool
  | .non, .none => true
  | .bl b, .bool c => b == c
  | .int i, .int j => decide (i = j)
  | .str s, .str t => decide (s = t)
  | _, _ => false
theorem sE_c {d : D} {q : Const} {j : Nat} (h : chkC d q = true) : SE M k p lk (.Constant q j pos) (.c d) := by
  intro X W g env σ F G H Q S hp
  unfold evE at hp
  have hq := hp.ok (Ex.refl F) S
  unfold chkC at h
  split at h
  · exact sE_of pe_non (hq _ .non)
  · rename_i b c
    obtain rfl : b = c := by simpa using h
    exact sE_of pe_bl (hq _ (.bl _))
  · rename_i b c
    obtain rfl : b = c := by simpa using h
    exact sE_of pe_int (hq _ (.int _))
  · rename_i b c
    obtain rfl : b = c := by simpa using h
    exact sE_of pe_str (hq _ (.str _))
  · cases h
/-- a name that is seen, in this slot -/
def seen (p : Plc) (i : Nat) (x : Str) : Bool := decide (p.N[i]? = some x) && (match p.sc.names.lookup x with
  | some .local => true
  | some .cell => true
  | some .free => true
  | _ => false) && !(x == ("__debug__" : Str)) && !(x == ("__classdict__" : Str))
theorem pv_of (g : Good M k p W X) {i : Nat} {x : Str} (h : seen p i x = true) : PE X (.Name x pos) (tVar i) := by
  unfold seen at h
  simp only [Bool.and_eq_true, decide_eq_true_eq, Bool.not_eq_true'] at h
  obtain ⟨⟨⟨h1, h2⟩, h3⟩, h4⟩ := h
  refine pe_var (by rw [g.names]; exact h1) ?_ h3 h4
  unfold Vis
  rw [g.scope]
  split at h2
  · rename_i e; exact .inl e
  · rename_i e; exact .inr (.inl e)
  · rename_i e; exact .inr (.inr e)
  · cases h2
theorem sE_v {i : Nat} {x : Str} (h : seen p i x = true) : SE M k p lk (.Name x pos) (.v i) := by
  intro X W g env σ F G H Q S hp
  unfold evE at hp
  have q := S.ent i
  cases e : getE env i with
  | fz d =>
    rw [e] at hp q
    obtain ⟨v, ev, r⟩ := q
    refine sE_of (pv_of g h) ⟨v, ev, ?_⟩
    have hq := hp.ok (Ex.refl F) S
    refine hq v ?_
    cases d with
    | own j => cases r
    | _ => exact r
  | no => rw [e] at hp; exact hp.elim
  | ow d =>
    rw [e] at hp q
    obtain ⟨a, ev, _, _, r⟩ := q
    refine sE_of (pv_of g h) ⟨_, ev, ?_⟩
    exact hp.ok (Ex.refl F) S _ ev
theorem sE_ov {i : Nat} {x : Str} (h : seen p i x = true) : SE M k p lk (.Name x pos) (.ov i) := by
  intro X W g env σ F G H Q S hp
  unfold evE at hp
  have q := S.ent i
  cases e : getE env i with
  | ow d =>
    rw [e] at hp q
    obtain ⟨a, ev, _, _, r⟩ := q
    refine sE_of (pv_of g h) ⟨_, ev, ?_⟩
    exact hp.ok (Ex.refl F) S _ ev
  | no => rw [e] at hp; exact hp.elim
  | fz d => rw [e] at hp; exact hp.elim

/-! ### tests -/
theorem truV_of (S : M.St env σ F G H) (hK : X.K = M.K) {v : V} {d : D} {b : Bool} (h : M.RV F σ v d) (ht : truth (res env d) = some b) : TruV X.K v H b := by
  have hn : isOwn (res env d) = false := by
    cases e : res env d <;> first | rfl | (rw [e] at ht; cases ht)
  have r := rx_of S h hn
  cases e : res env d with
  | non => rw [e] at r ht; rw [RX.non r]; cases ht; rfl
  | bl c => rw [e] at r ht; rw [RX.bl r]; cases ht; rfl
  | int c => rw [e] at r ht; rw [RX.int r]; cases ht; rfl
  | str c =>
    rw [e] at r ht
    have ev := RX.str r
    rw [ev]
    simp only [truth] at ht
    split at ht
    · rename_i hl
      cases ht
      refine ⟨hl, ?_⟩
      rw [Bool.eq_iff_iff]
      simp
    · cases ht
  | tup xs =>
    rw [e] at r ht
    obtain ⟨a, vs, rfl, h1, h2, _⟩ := RX.tup r S.fh
    cases ht
    refine .inr (.inl ⟨vs, by rw [hK]; exact h1, ?_⟩)
    cases h2 <;> rfl
  | lst xs =>
    rw [e] at r ht
    obtain ⟨a, vs, rfl, h1, h2⟩ := RX.lst r S.fh
    cases ht
    refine .inl ⟨vs, by rw [hK]; exact h1, ?_⟩
    cases h2 <;> rfl
  | dct xs => rw [e] at ht; cases ht
  | obj c fs => rw [e] at ht; cases ht
  | exc c fs => rw [e] at ht; cases ht
  | own i => rw [e] at ht; cases ht
end
end IV

set_option linter.all false
set_option Elab.async false
set_option maxRecDepth 100000
set_option maxHeartbeats 4000000
/-! IV3: operators by values (own work). -/
namespace IV
open PySem L2 PySem.Spec PyProof.Rows

/-! ### lists that are told by SqL -/
theorem list_mulG (l : Addr) (items : Array Value) (n : Nat) (d : Option Addr) (sl : Array (Option Value)) (x : Int) (u : Tok) (hc0 : ¬(!Builtin.List.listFitsIndex x) = true)
    (hc1 : ¬items.size * x.toNat > (2 ^ 63 - 1) / 8) (hc2 : ¬Builtin.List.listTooLong (items.size * x.toNat) = true) :
    Meets (Builtin.«list.__mul__» ⟨[.ref l, .int x u], []⟩) (fun _ R s => s.heap.get? l = some { cls := .type "list", dict := d, data := .seq items n, slots := sl } ∧ R (.ok (.ret (Value.ref s.heap.objs.size))) { s with heap := s.heap.push { cls := Value.type "list", data := Data.seq (List.foldl (fun x1 x2 => x1 ++ x2) #[] (List.replicate (if items.isEmpty = true then 0 else x.toNat) items)) }, toks := s.toks }) :=
  .of_wp fun prog w A R s h => by
    obtain ⟨hp, g, d, tk, os⟩ := s; obtain ⟨hl, h⟩ := h
    have hsz := AutoListH.joined_fits hc2
    have f1 := AutoSeq1.idx_int
    wp_walk; refine wpAny_ite_false (decide_eq_false (Nat.not_lt.mpr hsz)) ?_; wp_walk; exact ⟨_, rfl, h⟩
theorem int_rmulG (a : Int) (t : Tok) (l : Addr) (items : Array Value) (n : Nat) (d : Option Addr) (sl : Array (Option Value)) :
    Meets (Builtin.«int.__rmul__» ⟨[.int a t, .ref l], []⟩) (fun _ R s => s.heap.get? l = some { cls := .type "list", dict := d, data := .seq items n, slots := sl } ∧ R (.ok (.ret Value.notImplemented)) s) :=
  .of_wp fun prog w A R s h => by obtain ⟨hp, g, d, tk, os⟩ := s; obtain ⟨hl, h⟩ := h; wp_walk; exact ⟨_, rfl, h⟩
section
variable {X : Cx}
theorem op_catL : OpR X (binaryOp .Add) (fun x y H Q => ∃ l b xs zs, x = .ref l ∧ y = .ref b ∧ SqL X.K H l xs ∧ SqL X.K H b zs ∧ xs.length + zs.length ≤ sizeLine ∧ ∀ p, H p = none → Q (.ref p) (upd H p (.lst (xs ++ zs)))) := by
  intro pins s σ H x y v u Q I rx ry h
  obtain ⟨l, b, xs, zs, rfl, rfl, hH, hB, hz, q⟩ := h
  cases rx
  cases ry
  obtain ⟨its, r, ⟨⟨cls, dd, data, sl⟩, n, ho, hc, hdn, hd⟩, _⟩ := I.list hH
  obtain ⟨its2, r2, ⟨⟨cls2, dd2, data2, sl2⟩, n2, ho2, hc2, hdn2, hd2⟩, _⟩ := I.list hB
  simp only at hc hd hc2 hd2
  subst hc hd hc2 hd2
  have hsz : its.toArray.size + its2.toArray.size ≤ sizeLine := by rw [List.size_toArray, List.size_toArray, ← r.length, ← r2.length]; exact hz
  have e : its.toArray ++ its2.toArray = (its ++ its2).toArray := by simp
  refine concat_meets ⟨_, ho, rfl⟩ ⟨_, ho2, rfl⟩ noFill_list_add seq_list_add PySem.F.slot_list_add PySem.F.entry_list_add (PySem.F.args_list_add_2 _ _) (list_addW l b its.toArray its2.toArray n n2 dd dd2 sl sl2 hsz) ⟨ho, ho2, ?_⟩
  rw [e]
  exact ⟨.ref _, _, I.lnew (t' := s.toks) (r.append r2) (by rw [List.length_append]; exact hz), rfl, q _ I.fresh⟩
theorem op_repL : OpR X (binaryOp .Mult) (fun x y H Q => ∃ l k xs, x = .ref l ∧ y = .int k ∧ SqL X.K H l xs ∧ -(2 ^ 63) ≤ k ∧ k < 2 ^ 63 ∧ xs.length * k.toNat ≤ sizeLine ∧ ∀ p, H p = none → Q (.ref p) (upd H p (.lst (List.replicate k.toNat xs).flatten))) := by
  intro pins s σ H x y v u Q I rx ry h
  obtain ⟨l, k, xs, rfl, rfl, hH, h1, h2, hz, q⟩ := h
  cases rx
  obtain ⟨t, rfl⟩ := ry
  obtain ⟨its, r, ⟨⟨cls, dd, data, sl⟩, n, ho, hc, hdn, hd⟩, _⟩ := I.list hH
  simp only at hc hd
  subst hc hd
  have hl := r.length
  have hlen : its.toArray.size * k.toNat ≤ sizeLine := by rw [List.size_toArray, ← hl]; exact hz
  have hcap : ¬ its.toArray.size * k.toNat > (2 ^ 63 - 1) / 8 := by
    have : (sizeLine : Nat) ≤ (2 ^ 63 - 1) / 8 := by decide
    omega
  have hfit : ¬ (!Builtin.List.listFitsIndex k) = true := by
    rw [fitsIndex_both h1 h2]
    exact Bool.false_ne_true
  have hlong : ¬ Builtin.List.listTooLong (its.toArray.size * k.toNat) = true := by
    rw [notLongL hlen]
    exact Bool.false_ne_true
  have hnew : List.foldl (fun x1 x2 => x1 ++ x2) #[] (List.replicate (if its.toArray.isEmpty = true then 0 else k.toNat) its.toArray) = (List.replicate k.toNat its).flatten.toArray := by
    have f0 : ∀ m : Nat, List.foldl (fun x1 x2 => x1 ++ x2) #[] (List.replicate m its.toArray) = (List.replicate m its).flatten.toArray := fun m => by
      have := foldl_rep its m []
      rw [List.nil_append] at this
      exact this
    rw [f0]
    cases its with
    | nil => simp
    | cons a r' => rw [if_neg (by simp)]
  refine wpAny_binaryOp_repeat_ref (T := "list") (U := "int") (by decide) ⟨_, ho, rfl⟩ (fun s' => typeIs_int s' k t) noFill_list_mul F.fills_int_mul F.slot_int_rmul repeat_list F.slot_int_index.lookup
    (call_meets F.slot_int_rmul (typeIs_int s k t) F.entry_int_rmul (F.args_int_rmul_2 _ _) (int_rmulG k t l its.toArray n dd sl)
      ⟨ho, rfl, ⟨_, ho, rfl⟩, call_meets F.slot_list_mul ⟨_, ho, rfl⟩ F.entry_list_mul (F.args_list_mul_2 _ _) (list_mulG l its.toArray n dd sl k t hfit hcap hlong) ⟨ho, ?_⟩⟩)
  rw [hnew]
  exact ⟨.ref _, _, I.lnew (t' := s.toks) (r.rep k.toNat) (by rw [PyProof.Rows.lm_len_rep_flat, Nat.mul_comm]; exact hz), rfl, q _ I.fresh⟩
end

theorem foldl_repS (x : Array Nat) : ∀ (m : Nat) (acc : Array Nat), List.foldl (fun x1 x2 => x1 ++ x2) acc (List.replicate m x) = acc ++ (List.replicate m x.toList).flatten.toArray
  | 0, acc => by simp
  | m + 1, acc => by
    rw [List.replicate_succ, List.foldl_cons, foldl_repS x m, List.replicate_succ, List.flatten_cons]
    rw [Array.append_assoc]
    congr 1
    apply Array.ext'
    simp
theorem strRept_len (n : Nat) (s : Str) : (strRept n s).length = s.length * n := by
  unfold strRept rept PySem.Str.length
  simp [List.length_flatten, Nat.mul_comm]
/-- a text n times -/
theorem op_repS {X : Cx} : OpR X (binaryOp .Mult) (fun x y H Q => ∃ i k, x = .str i ∧ y = .int k ∧ -(2 ^ 62) ≤ k ∧ k < 2 ^ 62 ∧ i.length * k.toNat ≤ sizeLine ∧ Q (.str (strRept k.toNat i)) H) := by
  intro pins s σ H x y v u Q I rx ry h
  obtain ⟨i, k, rfl, rfl, h1, h2, hz, q⟩ := h
  obtain ⟨t, rfl⟩ := rx
  obtain ⟨t', rfl⟩ := ry
  rw [sizeLine_eq] at hz
  refine P.mul_str (by rw [decide_eq_false (by omega), decide_eq_false (by omega)]; rfl) (fun a b => ?_) (fun a b => ?_) ?_
  · have hk : k = (k.toNat : Int) := by omega
    have : (i.length : Int) ≤ (2 ^ 63 - 1) / k := by
      rw [Int.le_ediv_iff_mul_le (by omega), hk]
      have : ((i.length * k.toNat : Nat) : Int) ≤ 16777216 := Int.ofNat_le.mpr hz
      rw [Int.natCast_mul] at this
      omega
    omega
  · unfold Builtin.Str.tooLong
    rw [sizeLine_eq]
    simp; omega
  · split
    · rename_i hk
      have e : strRept k.toNat i = Str.empty := by
        rw [show k.toNat = 0 by omega]; rfl
      rw [e] at q
      exact ⟨by decide, .str Str.empty, H, I.tok _, ⟨_, rfl⟩, q⟩
    · split
      · rename_i hk hb
        have e : strRept k.toNat i = i := by
          obtain ⟨⟨l⟩⟩ := i
          simp only [Bool.or_eq_true, beq_iff_eq] at hb
          rcases hb with rfl | hb
          · simp [strRept, rept]
          · have : l = [] := by simpa [PySem.Str.length] using hb
            subst this
            simp [strRept, rept]
        rw [e] at q
        exact ⟨.str i, H, I, ⟨_, rfl⟩, q⟩
      · have e : strRept k.toNat i = ⟨(List.replicate k.toNat i.cps).foldl (· ++ ·) #[]⟩ := by
          unfold strRept rept
          have := foldl_repS i.cps k.toNat #[]
          simp only [Array.empty_append] at this
          exact congrArg PySem.Str.mk this.symm
        have hl := strRept_len k.toNat i
        rw [e] at q hl
        exact ⟨by rw [hl, sizeLine_eq]; exact hz, .str _, H, I.tok _, ⟨_, rfl⟩, q⟩

/-! ### a operation's result: told by itself, or new -/
section
variable {M : Mdl} {k : Nat} {p : Plc} {lk : Lk} {X : Cx} {W : WX} {F F' G H H' : Hp} {env : Env} {σ : L2.St}
/-- what is wanted of a result d at any later heap -/
def Aft (M : Mdl) (σ : L2.St) (F G : Hp) (env : Env) (Q : VK) (d : D) : Prop := ∀ F' H', Ex F F' → M.St env σ F' G H' → PN M σ G Q d env F' H'
theorem Aft.flat {Q : VK} {d : D} (h : Aft M σ F G env Q d) (S : M.St env σ F G H) {v : V} (ho : isObj d = false) (r : M.RV F σ v d) : Q v H := (h F H (Ex.refl _) S).1 ho v r
theorem Aft.lst {Q : VK} {ds : List D} (h : Aft M σ F G env Q (.lst ds)) (S : M.St env σ F G H) {p : Addr} {vs : List V} (hp : H p = none) (r : M.Reps F vs ds) : Q (.ref p) (upd H p (.lst vs)) := by
  obtain ⟨S', fp, gp, own⟩ := S.new (o := .lst vs) hp
  exact (h F _ (Ex.refl _) S').2 rfl p fp gp own ⟨vs, upd_same, r⟩
theorem Aft.dct {Q : VK} {ds : List (D × D)} (h : Aft M σ F G env Q (.dct ds)) (S : M.St env σ F G H) {p : Addr} {vs : List (Key × V)} (hp : H p = none) (r : M.RepK F vs ds) : Q (.ref p) (upd H p (.dK vs)) := by
  obtain ⟨S', fp, gp, own⟩ := S.new (o := .dK vs) hp
  exact (h F _ (Ex.refl _) S').2 rfl p fp gp own ⟨vs, upd_same, r⟩
theorem Aft.tup {Q : VK} {ds : List D} (h : Aft M σ F G env Q (.tup ds)) (S : M.St env σ F G H) {p : Addr} {vs : List V} (hp : H p = none) (r : M.Reps F vs ds) : Q (.ref p) (upd H p (.tup vs)) := by
  obtain ⟨x, S'⟩ := S.lay (o := .tup vs) hp
  exact (h _ _ x S').1 rfl _ (Rep.tup (SqT.of upd_same) (r.mono x))
def opOf : BOp → Operator
  | .add => .Add
  | .sub => .Sub
  | .mul => .Mult
  | .fdiv => .FloorDiv
  | .mod => .Mod
  | .pow => .Pow
def sB (X : Cx) (f : Value → Value → Sem Value) : R2 := fun x y H Q => ∀ (pins : List (Addr × Obj)) (s : Shared) (σ : L2.St) (v u : Value), Inv X pins σ H s → RelV x v → RelV y u → wpAny (model X.prog X.w) X.A (f v u) (EP X pins σ Q) X.xe s
theorem sB_op {f : Value → Value → Sem Value} : OpR X f (sB X f) := fun pins s σ H x y v u Q I rx ry h => h pins s σ v u I rx ry
theorem sB_of {f : Value → Value → Sem Value} {r : R2} (h : OpR X f r) {x y : V} {Q : VK} (q : r x y H Q) : sB X f x y H Q := fun pins s σ v u I rx ry => h pins s σ H x y v u Q I rx ry q
theorem small_mul {i j : Int} (h : (small i || small j) = true) : CMul i j := by
  simp only [small, Bool.or_eq_true, Bool.and_eq_true, decide_eq_true_eq] at h
  unfold CMul
  have e : (2 : Int) ^ 64 = 18446744073709551616 := by decide
  rw [e]
  exact h
theorem bop_ok (g : Good M k p W X) {o : BOp} {d1 d2 d : D} {v1 v2 : V} {Q : VK} (hb : bop o d1 d2 = some d) (S : M.St env σ F G H) (r1 : M.RX F H v1 d1) (r2 : M.RX F H v2 d2) (q : Aft M σ F G env Q d) : sB X (binaryOp (opOf o)) v1 v2 H Q := by
  unfold bop at hb
  split at hb
  · cases hb
    rw [RX.int r1, RX.int r2]
    exact sB_of op_add ⟨_, _, rfl, rfl, q.flat S rfl (Rep.int _)⟩
  · split at hb
    · rename_i hl
      cases hb
      rw [RX.str r1, RX.str r2]
      exact sB_of op_add_str ⟨_, _, rfl, rfl, hl, q.flat S rfl (Rep.str _)⟩
    · cases hb
  · split at hb
    · rename_i hl
      cases hb
      obtain ⟨a, vs, rfl, h1, h2⟩ := RX.lst r1 S.fh
      obtain ⟨b, ws, rfl, h3, h4⟩ := RX.lst r2 S.fh
      exact sB_of op_catL ⟨a, b, vs, ws, rfl, rfl, by rw [g.K]; exact h1, by rw [g.K]; exact h3, by rw [h2.length, h4.length]; exact hl, fun p hp => q.lst S hp (h2.append h4)⟩
    · cases hb
  · split at hb
    · rename_i hl
      cases hb
      obtain ⟨a, vs, rfl, h1, h2, h1'⟩ := RX.tup r1 S.fh
      obtain ⟨b, ws, rfl, h3, h4, h3'⟩ := RX.tup r2 S.fh
      refine sB_of op_catA ⟨a, b, vs, ws, rfl, rfl, by rw [g.K]; exact h1, by rw [g.K]; exact h3, by rw [h2.length, h4.length]; exact hl, fun e => ?_, fun _ e => ?_, fun _ _ p hp => q.tup S hp (h2.append h4)⟩
      · subst e
        cases h2
        exact q.flat S rfl (Rep.tup h3' h4)
      · subst e
        cases h4
        rw [List.append_nil] at q
        exact q.flat S rfl (Rep.tup h1' h2)
    · cases hb
  · cases hb
    rw [RX.int r1, RX.int r2]
    exact sB_of op_sub ⟨_, _, rfl, rfl, q.flat S rfl (Rep.int _)⟩
  · split at hb
    · rename_i hl
      cases hb
      rw [RX.int r1, RX.int r2]
      exact sB_of op_mul ⟨_, _, rfl, rfl, small_mul hl, q.flat S rfl (Rep.int _)⟩
    · cases hb
  · split at hb
    · rename_i hl
      simp only [Bool.and_eq_true, decide_eq_true_eq] at hl
      cases hb
      rw [RX.str r1, RX.int r2]
      exact sB_of op_repS ⟨_, _, rfl, rfl, hl.1.2, hl.2, by rw [sizeLine_eq]; exact hl.1.1, q.flat S rfl (Rep.str _)⟩
    · cases hb
  · split at hb
    · rename_i hl
      simp only [Bool.and_eq_true, decide_eq_true_eq] at hl
      cases hb
      obtain ⟨a, vs, rfl, h1, h2⟩ := RX.lst r1 S.fh
      rw [RX.int r2]
      exact sB_of op_repL ⟨a, _, vs, rfl, rfl, by rw [g.K]; exact h1, by omega, by omega, by rw [h2.length]; exact hl.1.1, fun p hp => q.lst S hp (h2.rept _)⟩
    · cases hb
  · split at hb
    · rename_i hl
      simp only [Bool.and_eq_true, decide_eq_true_eq, Bool.not_eq_true'] at hl
      cases hb
      obtain ⟨a, vs, rfl, h1, h2, _⟩ := RX.tup r1 S.fh
      rw [RX.int r2]
      refine sB_of op_repT ⟨a, _, vs, rfl, rfl, by rw [g.K]; exact h1, ?_, hl.1.1.2, hl.1.2, by rw [h2.length]; exact hl.2, fun p hp => q.tup S hp (h2.rept _)⟩
      rintro rfl
      cases h2
      simp at hl
    · cases hb
  · split at hb
    · rename_i hl
      simp only [Bool.and_eq_true, decide_eq_true_eq] at hl
      cases hb
      rw [RX.int r1, RX.int r2]
      rw [Int.fdiv_eq_ediv_of_nonneg _ (by omega)] at q
      exact sB_of op_fdivW ⟨_, _, rfl, rfl, ⟨hl.1, hl.2⟩, q.flat S rfl (Rep.int _)⟩
    · cases hb
  · split at hb
    · rename_i hl
      simp only [decide_eq_true_eq] at hl
      cases hb
      rw [RX.int r1, RX.int r2]
      exact sB_of op_modN ⟨_, _, rfl, rfl, by omega, q.flat S rfl (Rep.int _)⟩
    · cases hb
  · split at hb
    · rename_i hl
      simp only [Bool.and_eq_true, decide_eq_true_eq, small] at hl
      cases hb
      rw [RX.int r1, RX.int r2]
      have e : (2 : Nat) ^ 64 = 18446744073709551616 := by decide
      exact sB_of op_pow ⟨_, _, rfl, rfl, ⟨by omega, by omega, by omega⟩, q.flat S rfl (Rep.int _)⟩
    · cases hb
  · cases hb

/-! ### comparisons -/
mutual
/-- the same as the library's own data -/
def toP : D → PyData
  | .non => .none
  | .bl b => .bool b
  | .int i => .int i
  | .str s => .str s
  | .tup xs => .tuple (toPs xs)
  | .lst xs => .list (toPs xs)
  | .dct _ => .dict []
  | .obj _ _ => .dict []
  | .exc _ _ => .dict []
  | .own _ => .dict []
def toPs : List D → List PyData
  | [] => []
  | x :: xs => toP x :: toPs xs
end
mutual
theorem toP_eqv : ∀ a b : D, (∀ n, plainD n a = true → ∀ m, plainD m b = true → PyData.eqv (toP a) (toP b) = deq a b)
  | .non, b => fun n h m h' => by cases b <;> first | rfl | (simp only [plainD] at h'; cases h')
  | .bl x, b => fun n h m h' => by cases b <;> first | rfl | (simp only [plainD] at h'; cases h')
  | .int x, b => fun n h m h' => by cases b <;> first | rfl | (simp only [plainD] at h'; cases h')
  | .str x, b => fun n h m h' => by cases b <;> first | rfl | (simp only [plainD] at h'; cases h')
  | .dct x, b => fun n h m h' => by simp only [plainD] at h; cases h
  | .obj x y, b => fun n h m h' => by simp only [plainD] at h; cases h
  | .exc x y, b => fun n h m h' => by simp only [plainD] at h; cases h
  | .own x, b => fun n h m h' => by simp only [plainD] at h; cases h
  | .tup xs, b => fun n h m h' => by
    cases b with
    | tup ys =>
      cases n with
      | zero => simp only [plainD] at h; cases h
      | succ n =>
        cases m with
        | zero => simp only [plainD] at h'; cases h'
        | succ m =>
          simp only [plainD] at h h'
          show PyData.eqvAll (toPs xs) (toPs ys) = deqs xs ys
          exact toPs_eqv xs ys n h m h'
    | _ => first | rfl | (simp only [plainD] at h'; cases h')
  | .lst xs, b => fun n h m h' => by
    cases b with
    | lst ys =>
      cases n with
      | zero => simp only [plainD] at h; cases h
      | succ n =>
        cases m with
        | zero => simp only [plainD] at h'; cases h'
        | succ m =>
          simp only [plainD] at h h'
          show PyData.eqvAll (toPs xs) (toPs ys) = deqs xs ys
          exact toPs_eqv xs ys n h m h'
    | _ => first | rfl | (simp only [plainD] at h'; cases h')
theorem toPs_eqv : ∀ a b : List D, (∀ n, plainDs n a = true → ∀ m, plainDs m b = true → PyData.eqvAll (toPs a) (toPs b) = deqs a b)
  | [], [] => fun _ _ _ _ => rfl
  | [], _ :: _ => fun _ _ _ _ => rfl
  | _ :: _, [] => fun _ _ _ _ => rfl
  | x :: xs, y :: ys => fun n h m h' => by
    simp only [plainDs, Bool.and_eq_true] at h h'
    show (PyData.eqv (toP x) (toP y) && PyData.eqvAll (toPs xs) (toPs ys)) = (deq x y && deqs xs ys)
    rw [toP_eqv x y n h.1 m h'.1, toPs_eqv xs ys n h.2 m h'.2]
end
mutual
theorem toP_lay : ∀ (d : D) (n : Nat), plainD n d = true → (toP d).canLay0 = true ∧ (toP d).depth ≤ n
  | .non, n, _ => ⟨rfl, Nat.zero_le _⟩
  | .bl _, n, _ => ⟨rfl, Nat.zero_le _⟩
  | .int _, n, _ => ⟨rfl, Nat.zero_le _⟩
  | .str s, n, h => ⟨by show PyData.strOk s = true; simpa only [plainD] using h, Nat.zero_le _⟩
  | .tup xs, n, h => by
    cases n with
    | zero => simp only [plainD] at h; cases h
    | succ n =>
      simp only [plainD] at h
      obtain ⟨h1, h2⟩ := toPs_lay xs n h
      exact ⟨h1, Nat.succ_le_succ h2⟩
  | .lst xs, n, h => by
    cases n with
    | zero => simp only [plainD] at h; cases h
    | succ n =>
      simp only [plainD] at h
      obtain ⟨h1, h2⟩ := toPs_lay xs n h
      exact ⟨h1, Nat.succ_le_succ h2⟩
  | .dct _, n, h => by simp only [plainD] at h; cases h
  | .obj _ _, n, h => by simp only [plainD] at h; cases h
  | .own _, n, h => by simp only [plainD] at h; cases h
theorem toPs_lay : ∀ (d : List D) (n : Nat), plainDs n d = true → PyData.canLayAll0 (toPs d) = true ∧ PyData.depthAll (toPs d) ≤ n
  | [], n, _ => ⟨rfl, Nat.zero_le _⟩
  | x :: xs, n, h => by
    simp only [plainDs, Bool.and_eq_true] at h
    obtain ⟨h1, h2⟩ := toP_lay x n h.1
    obtain ⟨h3, h4⟩ := toPs_lay xs n h.2
    refine ⟨?_, Nat.max_le.mpr ⟨h2, h4⟩⟩
    show ((toP x).canLay0 && PyData.canLayAll0 (toPs xs)) = true
    rw [h1, h3]; rfl
end
theorem shaped_of {d : D} {n : Nat} (h : plainD n d = true) (hn : n ≤ 64) : SeqAt.shaped (toP d) = true := by
  obtain ⟨h1, h2⟩ := toP_lay d n h
  unfold SeqAt.shaped
  rw [h1, decide_eq_true (by omega)]; rfl
mutual
theorem dp_of (x : Ex F H) : ∀ (v : V) (d : D) (n : Nat), M.Rep F v d → plainD n d = true → Dp M.K H v (toP d)
  | _, .non, _, .non, _ => .non
  | _, .bl _, _, .bl b, _ => .bl b
  | _, .int _, _, .int b, _ => .int b
  | _, .str _, _, .str b, _ => .str b
  | _, .tup xs, n, .tup h r, p => by
    cases n with
    | zero => simp only [plainD] at p; cases p
    | succ n =>
      simp only [plainD] at p
      exact .tup (x.sqT h) (dps_of x _ _ n r p)
  | _, .lst xs, n, .lst h r, p => by
    cases n with
    | zero => simp only [plainD] at p; cases p
    | succ n =>
      simp only [plainD] at p
      exact .lst (x.sqL h) (dps_of x _ _ n r p)
  | _, .dct _, _, _, p => by simp only [plainD] at p; cases p
  | _, .obj _ _, _, _, p => by simp only [plainD] at p; cases p
theorem dps_of (x : Ex F H) : ∀ (vs : List V) (ds : List D) (n : Nat), M.Reps F vs ds → plainDs n ds = true → DpAll M.K H vs (toPs ds)
  | _, [], _, .nil, _ => .nil
  | _, _ :: _, n, .cons h r, p => by
    simp only [plainDs, Bool.and_eq_true] at p
    exact .cons (dp_of x _ _ n h p.1) (dps_of x _ _ n r p.2)
end
theorem dp_rx (x : Ex F H) {v : V} {d : D} {n : Nat} (h : M.RX F H v d) (p : plainD n d = true) : Dp M.K H v (toP d) := by
  rcases h with h | ⟨a, rfl, h⟩
  · exact dp_of x v d n h p
  · cases d with
    | lst xs =>
      obtain ⟨vs, h1, h2⟩ := h
      cases n with
      | zero => simp only [plainD] at p; cases p
      | succ n =>
        simp only [plainD] at p
        exact .lst (.inl (.inl h1)) (dps_of x _ _ n h2 p)
    | dct xs => simp only [plainD] at p; cases p
    | obj c fs => simp only [plainD] at p; cases p
    | _ => exact h.elim
/-- a flat value is what it is -/
def flV : D → V
  | .non => .non
  | .bl b => .bl b
  | .int i => .int i
  | .str s => .str s
  | _ => .non
theorem flat_rx {v : V} {d : D} (h : M.RX F H v d) (p : flat d = true) : v = flV d := by
  cases d with
  | non => exact RX.non h
  | bl b => exact RX.bl h
  | int b => exact RX.int h
  | str b => exact RX.str h
  | _ => cases p
theorem flat2_ok {a b : D} (h : flat2 a b = true) : flat a = true ∧ flat b = true ∧ scal (flV a) (flV b) = true ∧ decide (flV a = flV b) = deq a b := by
  cases a <;> cases b <;> first
    | (cases h; done)
    | refine ⟨rfl, rfl, rfl, ?_⟩
  all_goals first
    | rfl
    | exact dec_bl
    | exact dec_int
    | exact dec_str
theorem flatV_of {d : D} (h : flat d = true) : flatV (flV d) = true := by cases d <;> first | rfl | cases h
theorem eqV_of {a b : D} (h : flat a = true) (h' : flat b = true) : eqV (flV a) (flV b) = deq a b := by
  cases a <;> first | (cases h; done) | (cases b <;> first | (cases h'; done) | rfl)
theorem flats_of : ∀ {vs : List V} {ds : List D}, M.Reps F vs ds → ds.all flat = true → vs = ds.map flV
  | _, _, .nil, _ => rfl
  | _, _, .cons h r, p => by
    simp only [List.all_cons, Bool.and_eq_true] at p
    rw [flats_of r p.2, flat_rx (.inl h : M.RX F F _ _) p.1]; rfl
theorem inV_of {x : D} (hx : flat x = true) : ∀ {ys : List D}, ys.all flat = true → inV (flV x) (ys.map flV) = inDs x ys
  | [], _ => rfl
  | y :: ys, h => by
    simp only [List.all_cons, Bool.and_eq_true] at h
    have := inV_of hx h.2
    unfold inV at this ⊢
    rw [List.map_cons, List.any_cons, this, eqV_of h.1 hx]; rfl
theorem inP_of {x : D} {n : Nat} (hx : plainD n x = true) : ∀ {ys : List D}, plainDs n ys = true → ((toPs ys).any fun z => PyData.eqv z (toP x)) = inDs x ys
  | [], _ => rfl
  | y :: ys, h => by
    simp only [plainDs, Bool.and_eq_true] at h
    show (PyData.eqv (toP y) (toP x) || (toPs ys).any fun z => PyData.eqv z (toP x)) = (deq y x || inDs x ys)
    rw [inP_of hx h.2, toP_eqv y x n h.1 n hx]
theorem flatVs {ys : List D} (h : ys.all flat = true) : (ys.map flV).all flatV = true := by
  rw [List.all_map]
  rw [List.all_eq_true] at h ⊢
  exact fun y hy => flatV_of (h y hy)
/-- keys -/
theorem keyD_eq (a b : Key) : deq (keyD a) (keyD b) = decide (a = b) := by
  cases a with
  | inl a => cases b with
    | inl b => exact (key_ll a b).symm
    | inr b => exact (key_lr a b).symm
  | inr a => cases b with
    | inl b => exact (key_rl a b).symm
    | inr b => rw [key_rr]; exact Bool.beq_eq_decide_eq a b
theorem key_of_d {d : D} (h : isKey d = true) : ∃ k, d = keyD k := by
  cases d with
  | int i => exact ⟨.inl i, rfl⟩
  | str s => exact ⟨.inr s, rfl⟩
  | _ => cases h
theorem key_rx {v : V} {k : Key} (h : M.RX F H v (keyD k)) : v = kV k := by
  cases k with
  | inl i => exact RX.int h
  | inr s => exact RX.str h
theorem keyGet_ok : ∀ {ps : List (Key × V)} {kvs : List (D × D)} (k : Key), M.RepK F ps kvs → (keyGet (keyD k) kvs = none ∧ valV ps k = none) ∨ ∃ v d, keyGet (keyD k) kvs = some d ∧ valV ps k = some v ∧ M.Rep F v d
  | _, _, k, .nil => .inl ⟨rfl, rfl⟩
  | (k', v) :: ps, (_, d) :: kvs, k, .cons h r => by
    by_cases e : k' = k
    · subst e
      refine .inr ⟨v, d, ?_, valV_pos rfl, h⟩
      simp [keyGet, keyD_eq]
    · have e1 : keyGet (keyD k) ((keyD k', d) :: kvs) = keyGet (keyD k) kvs := by
        simp [keyGet, keyD_eq, e]
      rw [e1, valV_neg e]
      exact keyGet_ok k r
theorem keyIn_ok : ∀ {ps : List (Key × V)} {kvs : List (D × D)} (k : Key), M.RepK F ps kvs → keyIn (keyD k) kvs = (valV ps k).isSome
  | _, _, k, .nil => rfl
  | (k', v) :: ps, _ :: kvs, k, .cons h r => by
    by_cases e : k' = k
    · subst e
      rw [valV_pos rfl]
      simp [keyIn, keyD_eq]
    · rw [valV_neg e]
      simp only [keyIn, keyD_eq, e, decide_false, Bool.false_or]
      exact keyIn_ok k r

theorem op_inK (hu : X.A.units + 1 < cLine) : OpR X (compareOp .In) (fun y x H Q => ∃ a o, x = .ref a ∧ DGet H a y o ∧ Q (.bl o.isSome) H) := by
  intro pins s σ H x y v u Q I rx ry h
  obtain ⟨a, o, rfl, gt, q⟩ := h
  cases ry
  exact d_in hu I gt rx fun s' I' => ⟨.bl _, H, I', rfl, q⟩
theorem op_notInK (hu : X.A.units + 1 < cLine) : OpR X (compareOp .NotIn) (fun y x H Q => ∃ a o, x = .ref a ∧ DGet H a y o ∧ Q (.bl (!o.isSome)) H) := by
  intro pins s σ H x y v u Q I rx ry h
  obtain ⟨a, o, rfl, gt, q⟩ := h
  cases ry
  exact d_notIn hu I gt rx fun s' I' => ⟨.bl _, H, I', rfl, q⟩

def copOf : COp → CmpOp
  | .eq => .Eq
  | .ne => .NotEq
  | .lt => .Lt
  | .le => .LtE
  | .gt => .Gt
  | .ge => .GtE
  | .isin => .In
  | .notin => .NotIn
theorem cop_ok (g : Good M k p W X) {o : COp} {d1 d2 : D} {b : Bool} {v1 v2 : V} {Q : VK} (hb : cop o d1 d2 = some b) (S : M.St env σ F G H) (r1 : M.RX F H v1 d1) (r2 : M.RX F H v2 d2) (q : Q (.bl b) H) : sB X (compareOp (copOf o)) v1 v2 H Q := by
  have hu : X.A.units + 64 < cLine := g.room.units
  have hu5 : X.A.units + 65 < cLine := by have := g.room.un; omega
  have hu1 : X.A.units + 1 < cLine := by omega
  unfold cop at hb
  split at hb
  · split at hb
    · rename_i h
      cases hb
      cases hf : flat2 d1 d2 with
      | true =>
        obtain ⟨h1, h2, h3, h4⟩ := flat2_ok hf
        rw [flat_rx r1 h1, flat_rx r2 h2]
        exact sB_of op_eq ⟨h3, by rw [h4]; exact q⟩
      | false =>
        rw [hf, Bool.false_or, Bool.and_eq_true] at h
        refine sB_of (op_eqD hu) ⟨_, _, by rw [g.K]; exact dp_rx S.fh r1 h.1, by rw [g.K]; exact dp_rx S.fh r2 h.2, shaped_of h.1 (by decide), shaped_of h.2 (by decide), ?_⟩
        rw [toP_eqv _ _ _ h.1 _ h.2]
        exact q
    · cases hb
  · split at hb
    · rename_i h
      cases hb
      cases hf : flat2 d1 d2 with
      | true =>
        obtain ⟨h1, h2, h3, h4⟩ := flat2_ok hf
        rw [flat_rx r1 h1, flat_rx r2 h2]
        exact sB_of op_ne ⟨h3, by rw [h4]; exact q⟩
      | false =>
        rw [hf, Bool.false_or, Bool.and_eq_true] at h
        refine sB_of (op_neD hu) ⟨_, _, by rw [g.K]; exact dp_rx S.fh r1 h.1, by rw [g.K]; exact dp_rx S.fh r2 h.2, shaped_of h.1 (by decide), shaped_of h.2 (by decide), ?_⟩
        rw [toP_eqv _ _ _ h.1 _ h.2]
        exact q
    · cases hb
  · cases hb; rw [RX.int r1, RX.int r2]; exact sB_of op_lt ⟨_, _, rfl, rfl, q⟩
  · cases hb; rw [RX.int r1, RX.int r2]; exact sB_of op_le ⟨_, _, rfl, rfl, q⟩
  · cases hb; rw [RX.int r1, RX.int r2]; exact sB_of op_gt ⟨_, _, rfl, rfl, q⟩
  · cases hb; rw [RX.int r1, RX.int r2]; exact sB_of op_ge ⟨_, _, rfl, rfl, q⟩
  · cases hb; rw [RX.str r1, RX.str r2]; exact sB_of op_lt_str ⟨_, _, rfl, rfl, q⟩
  · cases hb; rw [RX.str r1, RX.str r2]; exact sB_of op_gt_str ⟨_, _, rfl, rfl, q⟩
  · cases hb; rw [RX.str r1, RX.str r2]; exact sB_of op_le_str ⟨_, _, rfl, rfl, q⟩
  · cases hb; rw [RX.str r1, RX.str r2]; exact sB_of op_ge_str ⟨_, _, rfl, rfl, q⟩
  · cases hb; rw [RX.str r1, RX.str r2]; exact sB_of op_in_sign ⟨_, _, rfl, rfl, q⟩
  · cases hb; rw [RX.str r1, RX.str r2]; exact sB_of op_notIn_sign ⟨_, _, rfl, rfl, q⟩
  · rename_i ys
    split at hb
    · rename_i h
      cases hb
      obtain ⟨a, vs, rfl, h1, h2⟩ := RX.lst r2 S.fh
      cases hf : (flat d1 && ys.all flat) with
      | true =>
        rw [Bool.and_eq_true] at hf
        rw [flat_rx r1 hf.1]
        refine sB_of op_in_seq ⟨a, vs, rfl, .inl (by rw [g.K]; exact h1), flatV_of hf.1, ?_, ?_⟩
        · rw [flats_of h2 hf.2]; exact flatVs hf.2
        · rw [flats_of h2 hf.2]
          show Q (.bl (inV (flV d1) (ys.map flV))) H
          rw [inV_of hf.1 hf.2]; exact q
      | false =>
        rw [hf, Bool.false_or, Bool.and_eq_true] at h
        refine sB_of (op_inD hu5) ⟨toP d1, toPs ys, by rw [g.K]; exact dp_rx S.fh r1 h.1, by rw [g.K]; exact .lst h1 (dps_of S.fh _ _ _ h2 h.2), shaped_of h.1 (by decide), shaped_of (d := .lst ys) (n := 59) (by simp only [plainD]; exact h.2) (by decide), ?_⟩
        rw [inP_of h.1 h.2]; exact q
    · cases hb
  · rename_i ys
    split at hb
    · rename_i h
      cases hb
      obtain ⟨a, vs, rfl, h1, h2⟩ := RX.lst r2 S.fh
      cases hf : (flat d1 && ys.all flat) with
      | true =>
        rw [Bool.and_eq_true] at hf
        rw [flat_rx r1 hf.1]
        refine sB_of op_notIn_seq ⟨a, vs, rfl, .inl (by rw [g.K]; exact h1), flatV_of hf.1, ?_, ?_⟩
        · rw [flats_of h2 hf.2]; exact flatVs hf.2
        · rw [flats_of h2 hf.2]
          show Q (.bl (!inV (flV d1) (ys.map flV))) H
          rw [inV_of hf.1 hf.2]; exact q
      | false =>
        rw [hf, Bool.false_or, Bool.and_eq_true] at h
        refine sB_of (op_notInD hu5) ⟨toP d1, toPs ys, by rw [g.K]; exact dp_rx S.fh r1 h.1, by rw [g.K]; exact .lst h1 (dps_of S.fh _ _ _ h2 h.2), shaped_of h.1 (by decide), shaped_of (d := .lst ys) (n := 59) (by simp only [plainD]; exact h.2) (by decide), ?_⟩
        rw [inP_of h.1 h.2]; exact q
    · cases hb
  · rename_i ys
    split at hb
    · rename_i hf
      cases hb
      obtain ⟨a, vs, rfl, h1, h2, _⟩ := RX.tup r2 S.fh
      rw [Bool.and_eq_true] at hf
      rw [flat_rx r1 hf.1]
      refine sB_of op_in_seq ⟨a, vs, rfl, .inr (by rw [g.K]; exact h1), flatV_of hf.1, ?_, ?_⟩
      · rw [flats_of h2 hf.2]; exact flatVs hf.2
      · rw [flats_of h2 hf.2]
        show Q (.bl (inV (flV d1) (ys.map flV))) H
        rw [inV_of hf.1 hf.2]; exact q
    · cases hb
  · rename_i ys
    split at hb
    · rename_i hf
      cases hb
      obtain ⟨a, vs, rfl, h1, h2, _⟩ := RX.tup r2 S.fh
      rw [Bool.and_eq_true] at hf
      rw [flat_rx r1 hf.1]
      refine sB_of op_notIn_seq ⟨a, vs, rfl, .inr (by rw [g.K]; exact h1), flatV_of hf.1, ?_, ?_⟩
      · rw [flats_of h2 hf.2]; exact flatVs hf.2
      · rw [flats_of h2 hf.2]
        show Q (.bl (!inV (flV d1) (ys.map flV))) H
        rw [inV_of hf.1 hf.2]; exact q
    · cases hb
  · rename_i ys
    split at hb
    · rename_i hf
      cases hb
      obtain ⟨kk, rfl⟩ := key_of_d hf
      obtain ⟨a, vs, rfl, h1, h2⟩ := RX.dct r2 S.fh
      rw [key_rx r1]
      exact sB_of (op_inK hu1) ⟨a, _, rfl, .inl ⟨vs, kk, h1, rfl, rfl⟩, by rw [← keyIn_ok kk h2]; exact q⟩
    · cases hb
  · rename_i ys
    split at hb
    · rename_i hf
      cases hb
      obtain ⟨kk, rfl⟩ := key_of_d hf
      obtain ⟨a, vs, rfl, h1, h2⟩ := RX.dct r2 S.fh
      rw [key_rx r1]
      exact sB_of (op_notInK hu1) ⟨a, _, rfl, .inl ⟨vs, kk, h1, rfl, rfl⟩, by rw [← keyIn_ok kk h2]; exact q⟩
    · cases hb
  · cases hb
end
end IV

set_option linter.all false
set_option Elab.async false
set_option maxRecDepth 100000
set_option maxHeartbeats 4000000
/-! IV4: expressions put together (own work). -/
namespace IV
open PySem L2 PySem.Spec PyProof.Rows

section
variable {X : Cx}
theorem ix_dict (hu : X.A.units + 1 < cLine) : IxR X (fun x y H Q => ∃ a v, x = .ref a ∧ DGet H a y (some v) ∧ Q v H) := by
  intro value slice pins s σ H x y v u Q I rx ry h hs
  obtain ⟨a, z, rfl, gt, q⟩ := h
  cases rx
  have hT := dict_typeIs I gt
  have h₂ := d_getItem (Q := EP X pins σ Q) (E := X.xe) hu I gt ry fun w' s3 I3 rw' => ⟨z, H, I3, rw', q⟩
  unfold subscriptTail
  refine wpAny_bind ?_
  rw [getitemInPython_of_ne hT.not_modules]
  refine wpAny_bind (wpAny_specialOf hT PySem.F.slot_dict_getitem.lookup ?_)
  have fin : wpAny (model X.prog X.w) X.A (subscripted slice false (.ref a) u) (fun r s₃ => wpAny (model X.prog X.w) X.A (letTemporaryGo value (.ref a) r >>= fun _ => pure r) (EP X pins σ Q) X.xe s₃) X.xe s := by
    rw [hs]
    exact wpAny_operating (wpAny_mono h₂ (fun r s₃ h₃ => wpAny_bind (wpAny_letTemporaryGo (wpAny_pure h₃))) fun _ _ x => x)
  first
    | exact wpAny_pure (wpAny_bind fin)
    | exact wpAny_bind (wpAny_pure (wpAny_bind fin))
    | exact wpAny_bind fin
end

section
variable {M : Mdl} {k : Nat} {p : Plc} {lk : Lk} {X : Cx} {W : WX} {e a b c : Expr} {ie ia ib ic : IE} {pos : Pos} {F F' G H H' : Hp} {env : Env} {σ : L2.St}

theorem bop_no {o : BOp} {d1 d2 d : D} (h : bop o d1 d2 = some d) : isOwn d1 = false ∧ isOwn d2 = false := by
  unfold bop at h
  split at h <;> first | exact ⟨rfl, rfl⟩ | cases h
theorem flat_own {d : D} (h : flat d = true) : isOwn d = false := by cases d <;> first | rfl | cases h
theorem cop_no {o : COp} {d1 d2 : D} {d : Bool} (h : cop o d1 d2 = some d) : isOwn d1 = false ∧ isOwn d2 = false := by
  unfold cop at h
  split at h
  · split at h
    · rename_i q
      have pl : ∀ {d : D}, plainD 60 d = true → isOwn d = false := fun {d} q => by
        cases d <;> first | rfl | (simp only [plainD] at q; cases q)
      cases hf : flat2 d1 d2 with
      | true =>
        obtain ⟨h1, h2, _, _⟩ := flat2_ok hf
        exact ⟨flat_own h1, flat_own h2⟩
      | false =>
        rw [hf, Bool.false_or, Bool.and_eq_true] at q
        exact ⟨pl q.1, pl q.2⟩
    · cases h
  · split at h
    · rename_i q
      have pl : ∀ {d : D}, plainD 60 d = true → isOwn d = false := fun {d} q => by
        cases d <;> first | rfl | (simp only [plainD] at q; cases q)
      cases hf : flat2 d1 d2 with
      | true =>
        obtain ⟨h1, h2, _, _⟩ := flat2_ok hf
        exact ⟨flat_own h1, flat_own h2⟩
      | false =>
        rw [hf, Bool.false_or, Bool.and_eq_true] at q
        exact ⟨pl q.1, pl q.2⟩
    · cases h
  all_goals first
    | exact ⟨rfl, rfl⟩
    | (split at h
       · rename_i q
         refine ⟨?_, rfl⟩
         cases d1 <;> first | rfl | (simp [flat, isKey, plainD] at q; done)
       · cases h)
    | cases h

theorem sN_bin {o : BOp} (ha : SE M k p lk a ia) (hb : SE M k p lk b ib) : SN M k p lk (.BinOp a (opOf o) b pos) (.bin o ia ib) := by
  intro X W g env σ F G H Q S hp
  refine sE_of (pe_op sB_op (peS X a) (peS X b)) (ha X W g env σ F G H _ S ?_)
  unfold evE at hp
  refine hp.bind fun d1 env1 F1 H1 e1 x1 S1 hp1 v1 r1 => hb X W g env1 σ F1 G H1 _ S1 (hp1.bind fun d2 env2 F2 H2 e2 x2 S2 hp2 v2 r2 => ?_)
  obtain ⟨d, hd, hp3⟩ := hp2.of
  obtain ⟨n1, n2⟩ := bop_no hd
  exact bop_ok g hd S2 (rx_of S2 (rv_mono x2 r1) n1) (rx_of S2 r2 n2) hp3
theorem sE_neg (ha : SE M k p lk a ia) : SE M k p lk (.UnaryOp .USub a pos) (.neg ia) := by
  intro X W g env σ F G H Q S hp
  refine sE_of (pe_un un_neg (peS X a)) (ha X W g env σ F G H _ S ?_)
  unfold evE at hp
  refine hp.bind fun d1 env1 F1 H1 e1 x1 S1 hp1 v1 r1 => ?_
  simp only at hp1
  split at hp1
  · have r1 : Rep M.cl M.K F1 v1 (.int _) := r1
    cases r1
    exact ⟨_, rfl, hp1.ok (Ex.refl _) S1 _ (Rep.int _)⟩
  · exact hp1.elim
theorem sE_cmp {o : COp} (ha : SE M k p lk a ia) (hb : SE M k p lk b ib) (hm : behindInMarks (copOf o) b = false) : SE M k p lk (.Compare a [copOf o] [b] pos) (.cmp o ia ib) := by
  intro X W g env σ F G H Q S hp
  refine sE_of (pe_cmpR sB_op (peS X a) (peS X b) hm) (ha X W g env σ F G H _ S ?_)
  unfold evE at hp
  refine hp.bind fun d1 env1 F1 H1 e1 x1 S1 hp1 v1 r1 => hb X W g env1 σ F1 G H1 _ S1 (hp1.bind fun d2 env2 F2 H2 e2 x2 S2 hp2 v2 r2 => ?_)
  obtain ⟨d, hd, hp3⟩ := hp2.of
  obtain ⟨n1, n2⟩ := cop_no hd
  exact cop_ok g hd S2 (rx_of S2 (rv_mono x2 r1) n1) (rx_of S2 r2 n2) (hp3.ok (Ex.refl _) S2 _ (Rep.bl _))
theorem sT_cmp {o : COp} (ha : SE M k p lk a ia) (hb : SE M k p lk b ib) (hm : behindInMarks (copOf o) b = false) : ST M k p lk (.Compare a [copOf o] [b] pos) (.cmp o ia ib) := by
  intro X W g env σ F G H Q S hp
  refine sT_of (pt_cmpR sB_op (peS X a) (peS X b) hm) (ha X W g env σ F G H _ S ?_)
  unfold evE at hp
  have hp' : Post M W σ F G (fun b _ _ H' => Q b H') ((evE M.T (callF M.T k) lk ia env).bind fun p => (evE M.T (callF M.T k) lk ib p.2).bind fun q => (R.of (cop o (res q.2 p.1) (res q.2 q.1))).bind fun d => .ok (d, q.2)) := by
    cases h1 : evE M.T (callF M.T k) lk ia env with
    | no => rw [h1] at hp; exact hp
    | ex _ _ _ => rw [h1] at hp; exact hp
    | ok q =>
      rw [h1] at hp
      simp only [R.bind_ok] at hp ⊢
      cases h2 : evE M.T (callF M.T k) lk ib q.2 with
      | no => rw [h2] at hp; exact hp
      | ex _ _ _ => rw [h2] at hp; exact hp
      | ok r =>
        rw [h2] at hp
        simp only [R.bind_ok] at hp ⊢
        cases h3 : cop o (res r.2 q.1) (res r.2 r.1) with
        | none => rw [h3] at hp; exact hp
        | some d => rw [h3] at hp; exact hp
  refine hp'.bind fun d1 env1 F1 H1 e1 x1 S1 hp1 v1 r1 => hb X W g env1 σ F1 G H1 _ S1 (hp1.bind fun d2 env2 F2 H2 e2 x2 S2 hp2 v2 r2 => ?_)
  obtain ⟨d, hd, hp3⟩ := hp2.of
  obtain ⟨n1, n2⟩ := cop_no hd
  exact cop_ok g hd S2 (rx_of S2 (rv_mono x2 r1) n1) (rx_of S2 r2 n2) ⟨d, rfl, hp3.ok (Ex.refl _) S2⟩

/-! ### tests of any value -/
/-- a test whose truth is asked of its value -/
def plainTest : Expr → Bool
  | .UnaryOp .Not _ _ => false
  | .BoolOp _ _ _ => false
  | .IfExp _ _ _ _ => false
  | .Compare _ _ _ _ => false
  | _ => true
theorem plainTest_ok {e : Expr} (h : plainTest e = true) (env : PySem.Env) (whole : Sem Value) : isTrue e env whole = (do let v ← whole; standAt e.pos; holding [v] (truthy v)) := by
  cases e with
  | UnaryOp op x q => cases op <;> first | rfl | cases h
  | BoolOp _ _ _ => cases h
  | IfExp _ _ _ _ => cases h
  | Compare _ _ _ _ => cases h
  | _ => rfl
theorem sT_any (h : plainTest e = true) (he : SE M k p lk e ie) : ST M k p lk e ie := by
  intro X W g env σ F G H Q S hp
  refine sT_of (pt_truth (peS X e) (plainTest_ok h X.env)) (he X W g env σ F G H _ S ?_)
  refine hp.bind fun d env1 F1 H1 e1 x1 S1 hp1 v r => ?_
  obtain ⟨b, hb, hp2⟩ := hp1.of
  exact ⟨b, truV_of S1 g.K r hb, hp2.ok (Ex.refl _) S1⟩
theorem evE_not (env : Env) (ia : IE) : (evE M.T (callF M.T k) lk (.not ia) env) = ((evE M.T (callF M.T k) lk ia env).bind fun p => (R.of (truth (res p.2 p.1))).bind fun b => .ok (.bl (!b), p.2)) := by rw [evE]
theorem sT_not (ha : ST M k p lk a ia) : ST M k p lk (.UnaryOp .Not a pos) (.not ia) := by
  intro X W g env σ F G H Q S hp
  refine sT_of (pt_not (ptS X a)) (ha X W g env σ F G H _ S ?_)
  rw [evE_not] at hp
  cases h1 : evE M.T (callF M.T k) lk ia env with
  | no => rw [h1] at hp; exact hp
  | ex _ _ _ => rw [h1] at hp; exact hp
  | ok q =>
    rw [h1] at hp
    simp only [R.bind_ok] at hp ⊢
    cases h2 : truth (res q.2 q.1) with
    | none => rw [h2] at hp; exact hp
    | some b => rw [h2] at hp; exact hp
theorem sE_not (ha : SE M k p lk a ia) : SE M k p lk (.UnaryOp .Not a pos) (.not ia) := by
  intro X W g env σ F G H Q S hp
  refine sE_of (pe_notT (peS X a)) (ha X W g env σ F G H _ S ?_)
  rw [evE_not] at hp
  refine hp.bind fun d1 env1 F1 H1 e1 x1 S1 hp1 v1 r1 => ?_
  obtain ⟨b, hb, hp2⟩ := hp1.of
  exact ⟨b, truV_of S1 g.K r1 hb, hp2.ok (Ex.refl _) S1 _ (Rep.bl _)⟩

/-! ### and, or -/
theorem evE_and (env : Env) (ia ib : IE) : evE M.T (callF M.T k) lk (.and ia ib) env = ((evE M.T (callF M.T k) lk ia env).bind fun p => if isOwn p.1 then .no else (R.of (truth p.1)).bind fun t => if t then evE M.T (callF M.T k) lk ib p.2 else .ok (p.1, p.2)) := by rw [evE]
theorem evE_or (env : Env) (ia ib : IE) : evE M.T (callF M.T k) lk (.or ia ib) env = ((evE M.T (callF M.T k) lk ia env).bind fun p => if isOwn p.1 then .no else (R.of (truth p.1)).bind fun t => if t then .ok (p.1, p.2) else evE M.T (callF M.T k) lk ib p.2) := by rw [evE]
theorem res_no {env : Env} {d : D} (h : isOwn d = false) : res env d = d := by
  cases d with
  | own i => cases h
  | _ => rfl
variable {rest : List Expr}
theorem sE_and (ha : SE M k p lk a ia) (hb : SE M k p lk (.BoolOp .And (b :: rest) pos) ib) : SE M k p lk (.BoolOp .And (a :: b :: rest) pos) (.and ia ib) := by
  intro X W g env σ F G H Q S hp
  refine sE_of (pe_andT (peS X a) (peS X _)) (ha X W g env σ F G H _ S ?_)
  rw [evE_and] at hp
  refine hp.bind fun d1 env1 F1 H1 e1 x1 S1 hp1 v1 r1 => ?_
  obtain ⟨hn, hp2⟩ := hp1.ite
  obtain ⟨t, ht, hp3⟩ := hp2.of
  refine ⟨t, truV_of S1 g.K r1 (by rw [res_no hn]; exact ht), ?_⟩
  cases t with
  | true => exact hb X W g env1 σ F1 G H1 _ S1 hp3
  | false => exact hp3.ok (Ex.refl _) S1 v1 r1
theorem sE_or (ha : SE M k p lk a ia) (hb : SE M k p lk (.BoolOp .Or (b :: rest) pos) ib) : SE M k p lk (.BoolOp .Or (a :: b :: rest) pos) (.or ia ib) := by
  intro X W g env σ F G H Q S hp
  refine sE_of (pe_orT (peS X a) (peS X _)) (ha X W g env σ F G H _ S ?_)
  rw [evE_or] at hp
  refine hp.bind fun d1 env1 F1 H1 e1 x1 S1 hp1 v1 r1 => ?_
  obtain ⟨hn, hp2⟩ := hp1.ite
  obtain ⟨t, ht, hp3⟩ := hp2.of
  refine ⟨t, truV_of S1 g.K r1 (by rw [res_no hn]; exact ht), ?_⟩
  cases t with
  | false => exact hb X W g env1 σ F1 G H1 _ S1 hp3
  | true => exact hp3.ok (Ex.refl _) S1 v1 r1
theorem sN_or (ha : SN M k p lk a ia) (hb : SN M k p lk (.BoolOp .Or (b :: rest) pos) ib) : SN M k p lk (.BoolOp .Or (a :: b :: rest) pos) (.or ia ib) := by
  intro X W g env σ F G H Q S hp
  refine sE_of (pe_orT (peS X a) (peS X _)) (ha X W g env σ F G H _ S ?_)
  rw [evE_or] at hp
  refine hp.bind fun d1 env1 F1 H1 e1 x1 S1 hp1 => ?_
  obtain ⟨hn, hp2⟩ := hp1.ite
  obtain ⟨t, ht, hp3⟩ := hp2.of
  have rest : ∀ v1, TruV X.K v1 H1 t → (t = true → Q v1 H1) → ∃ t, TruV X.K v1 H1 t ∧ (if t then Q v1 H1 else sE X (.BoolOp .Or (b :: rest) pos) σ H1 Q) := fun v1 tr q => by
    refine ⟨t, tr, ?_⟩
    cases t with
    | false => exact hb X W g env1 σ F1 G H1 _ S1 hp3
    | true => exact q rfl
  refine ⟨fun ho v1 r1 => rest v1 (truV_of S1 g.K r1 (by rw [res_no hn]; exact ht)) fun z => ?_, fun ho a fa ga na oa => rest _ ?_ fun z => ?_⟩
  · subst z
    exact (hp3.ok (Ex.refl _) S1).1 ho v1 r1
  · cases d1 with
    | lst xs =>
      obtain ⟨vs, h1, h2⟩ := oa
      cases ht
      refine .inl ⟨vs, .inl (.inl h1), ?_⟩
      cases h2 <;> rfl
    | _ => first | (cases ht; done) | (cases ho; done)
  · subst z
    exact (hp3.ok (Ex.refl _) S1).2 ho a fa ga na oa
theorem sN_one {op : BoolOp} (ha : SN M k p lk a ia) : SN M k p lk (.BoolOp op [a] pos) ia := fun X W g env σ F G H Q S hp => sE_of (pe_one (peS X a)) (ha X W g env σ F G H Q S hp)
theorem sE_one {op : BoolOp} (ha : SE M k p lk a ia) : SE M k p lk (.BoolOp op [a] pos) ia := fun X W g env σ F G H Q S hp => sE_of (pe_one (peS X a)) (ha X W g env σ F G H Q S hp)
/-- tests of and, or whatever the whole is -/
def sW (X : Cx) (e : Expr) : TT := fun σ H Q => ∀ (whole : Sem Value) (pins : List (Addr × Obj)) (s : Shared), Inv X pins σ H s → wpAny (model X.prog X.w) X.A (isTrue e X.env whole) (TP X pins σ Q) X.xe s
theorem pwS (X : Cx) (e : Expr) : PW X e (sW X e) := ⟨fun whole pins s _ _ _ I h => h whole pins s I⟩
theorem sW_of {e : Expr} {t : TT} (h : PW X e t) {σ : L2.St} {H : Hp} {Q : Bool → Hp → Prop} (q : t σ H Q) : sW X e σ H Q := fun whole pins s I => h.run whole pins s σ H Q I q
def SW (M : Mdl) (k : Nat) (p : Plc) (lk : Lk) (e : Expr) (ie : IE) : Prop := ∀ (X : Cx) (W : WX), Good M k p W X → ∀ (env : Env) (σ : L2.St) (F G H : Hp) (Q : Bool → Hp → Prop), M.St env σ F G H →
  Post M W σ F G (fun b _ _ H' => Q b H') ((evE M.T (callF M.T k) lk ie env).bind fun q => (R.of (truth (res q.2 q.1))).bind fun b => .ok (b, q.2)) → sW X e σ H Q
theorem SW.st (h : SW M k p lk e ie) : ST M k p lk e ie := fun X W g env σ F G H Q S hp => sT_of (pwS X e).pt (h X W g env σ F G H Q S hp)
theorem sW_and1 (ha : ST M k p lk a ia) : SW M k p lk (.BoolOp .And [a] pos) ia := fun X W g env σ F G H Q S hp => sW_of (pw_and1 (ptS X a)) (ha X W g env σ F G H Q S hp)
theorem sW_or1 (ha : ST M k p lk a ia) : SW M k p lk (.BoolOp .Or [a] pos) ia := fun X W g env σ F G H Q S hp => sW_of (pw_or1 (ptS X a)) (ha X W g env σ F G H Q S hp)
theorem sW_and (ha : ST M k p lk a ia) (hb : SW M k p lk (.BoolOp .And (b :: rest) pos) ib) : SW M k p lk (.BoolOp .And (a :: b :: rest) pos) (.and ia ib) := by
  intro X W g env σ F G H Q S hp
  refine sW_of (pw_and (ptS X a) (pwS X _)) (ha X W g env σ F G H _ S ?_)
  rw [evE_and] at hp
  cases h1 : evE M.T (callF M.T k) lk ia env with
  | no => rw [h1] at hp; exact hp
  | ex _ _ _ => rw [h1] at hp; exact hp
  | ok q =>
    rw [h1] at hp
    simp only [R.bind_ok] at hp ⊢
    cases hn : isOwn q.1 with
    | true => rw [hn] at hp; exact False.elim hp
    | false =>
      rw [hn] at hp
      simp only [Bool.false_eq_true, if_false] at hp
      rw [res_no hn]
      cases h2 : truth q.1 with
      | none => rw [h2] at hp; exact hp
      | some t =>
        rw [h2] at hp
        intro F1 H1 x1 S1
        cases t with
        | true => exact hb X W g q.2 σ F1 G H1 Q S1 (Post.grow hp x1)
        | false =>
          simp only [R.of_some, R.bind_ok, Bool.false_eq_true, if_false, res_no hn, h2] at hp
          exact hp F1 H1 x1 S1
theorem sW_or (ha : ST M k p lk a ia) (hb : SW M k p lk (.BoolOp .Or (b :: rest) pos) ib) : SW M k p lk (.BoolOp .Or (a :: b :: rest) pos) (.or ia ib) := by
  intro X W g env σ F G H Q S hp
  refine sW_of (pw_or (ptS X a) (pwS X _)) (ha X W g env σ F G H _ S ?_)
  rw [evE_or] at hp
  cases h1 : evE M.T (callF M.T k) lk ia env with
  | no => rw [h1] at hp; exact hp
  | ex _ _ _ => rw [h1] at hp; exact hp
  | ok q =>
    rw [h1] at hp
    simp only [R.bind_ok] at hp ⊢
    cases hn : isOwn q.1 with
    | true => rw [hn] at hp; exact False.elim hp
    | false =>
      rw [hn] at hp
      simp only [Bool.false_eq_true, if_false] at hp
      rw [res_no hn]
      cases h2 : truth q.1 with
      | none => rw [h2] at hp; exact hp
      | some t =>
        rw [h2] at hp
        intro F1 H1 x1 S1
        cases t with
        | false => exact hb X W g q.2 σ F1 G H1 Q S1 (Post.grow hp x1)
        | true =>
          simp only [R.of_some, R.bind_ok, if_true, res_no hn, h2] at hp
          exact hp F1 H1 x1 S1

/-! ### a if t else b -/
theorem sE_ife {t : Expr} {it : IE} (ht : ST M k p lk t it) (ha : SE M k p lk a ia) (hb : SE M k p lk b ib) : SE M k p lk (.IfExp t a b pos) (.ife it ia ib) := by
  intro X W g env σ F G H Q S hp
  refine sE_of (pe_ifExp (ptS X t) (peS X a) (peS X b)) (ht X W g env σ F G H _ S ?_)
  rw [evE] at hp
  cases h1 : evE M.T (callF M.T k) lk it env with
  | no => rw [h1] at hp; exact hp
  | ex _ _ _ => rw [h1] at hp; exact hp
  | ok q =>
    rw [h1] at hp
    simp only [R.bind_ok] at hp ⊢
    cases h2 : truth (res q.2 q.1) with
    | none => rw [h2] at hp; exact hp
    | some c =>
      rw [h2] at hp
      intro F1 H1 x1 S1
      cases c with
      | true => exact ha X W g q.2 σ F1 G H1 Q S1 (Post.grow hp x1)
      | false => exact hb X W g q.2 σ F1 G H1 Q S1 (Post.grow hp x1)
/-! ### is None -/
theorem isNon_ok {v : V} {d : D} (h : M.Rep F v d) : decide (v = V.non) = isNon d := by cases h <;> rfl
theorem sE_isN {j : Nat} {pos' : Pos} (ha : SE M k p lk a ia) : SE M k p lk (.Compare a [.Is] [.Constant .none j pos'] pos) (.isN ia) := by
  intro X W g env σ F G H Q S hp
  refine sE_of (pe_cmpR op_isN (peS X a) pe_non (nomark _)) (ha X W g env σ F G H _ S ?_)
  rw [evE] at hp
  refine hp.bind fun d1 env1 F1 H1 e1 x1 S1 hp1 v1 r1 => ⟨rfl, ?_⟩
  obtain ⟨hn, hp2⟩ := hp1.ite
  rw [isNon_ok ((rv_of hn).mp r1)]
  exact hp2.ok (Ex.refl _) S1 _ (Rep.bl _)
theorem sE_notN {j : Nat} {pos' : Pos} (ha : SE M k p lk a ia) : SE M k p lk (.Compare a [.IsNot] [.Constant .none j pos'] pos) (.notN ia) := by
  intro X W g env σ F G H Q S hp
  refine sE_of (pe_cmpR op_notN (peS X a) pe_non (nomark _)) (ha X W g env σ F G H _ S ?_)
  rw [evE] at hp
  refine hp.bind fun d1 env1 F1 H1 e1 x1 S1 hp1 v1 r1 => ⟨rfl, ?_⟩
  obtain ⟨hn, hp2⟩ := hp1.ite
  rw [isNon_ok ((rv_of hn).mp r1)]
  exact hp2.ok (Ex.refl _) S1 _ (Rep.bl _)
/-- a test that gives a truth, by its value -/
theorem sT_isN {j : Nat} {pos' : Pos} (ha : SE M k p lk a ia) : ST M k p lk (.Compare a [.Is] [.Constant .none j pos'] pos) (.isN ia) := by
  intro X W g env σ F G H Q S hp
  refine sT_of (pt_cmpR op_isN (peS X a) pe_non (nomark _)) (ha X W g env σ F G H _ S ?_)
  rw [evE] at hp
  cases h1 : evE M.T (callF M.T k) lk ia env with
  | no => rw [h1] at hp; exact hp
  | ex _ _ _ => rw [h1] at hp; exact hp
  | ok q =>
    rw [h1] at hp
    simp only [R.bind_ok] at hp
    cases hn : isOwn q.1 with
    | true => rw [hn] at hp; exact False.elim hp
    | false =>
      rw [hn] at hp
      intro F1 H1 x1 S1 v1 r1
      refine ⟨rfl, _, rfl, ?_⟩
      rw [isNon_ok ((rv_of hn).mp r1)]
      exact hp F1 H1 x1 S1
theorem sT_notN {j : Nat} {pos' : Pos} (ha : SE M k p lk a ia) : ST M k p lk (.Compare a [.IsNot] [.Constant .none j pos'] pos) (.notN ia) := by
  intro X W g env σ F G H Q S hp
  refine sT_of (pt_cmpR op_notN (peS X a) pe_non (nomark _)) (ha X W g env σ F G H _ S ?_)
  rw [evE] at hp
  cases h1 : evE M.T (callF M.T k) lk ia env with
  | no => rw [h1] at hp; exact hp
  | ex _ _ _ => rw [h1] at hp; exact hp
  | ok q =>
    rw [h1] at hp
    simp only [R.bind_ok] at hp
    cases hn : isOwn q.1 with
    | true => rw [hn] at hp; exact False.elim hp
    | false =>
      rw [hn] at hp
      intro F1 H1 x1 S1 v1 r1
      refine ⟨rfl, _, rfl, ?_⟩
      rw [isNon_ok ((rv_of hn).mp r1)]
      exact hp F1 H1 x1 S1

/-! ### lists of arguments, displays -/
def notStar : Expr → Bool
  | .Starred _ _ => false
  | _ => true
theorem starEach_cons {e : Expr} (h : notStar e = true) (es : List Expr) (env : PySem.Env) : starEach (e :: es) env = (false, eval e env) :: starEach es env := by
  cases e with
  | Starred _ _ => cases h
  | _ => rfl
theorem paired_mono (x : Ex F F') : ∀ {vs : List V} {ds : List D}, Paired (M.RV F σ) vs ds → Paired (M.RV F' σ) vs ds
  | _, _, .nil => .nil
  | _, _, .cons h r => .cons (rv_mono x h) (paired_mono x r)
theorem paired_reps : ∀ {vs : List V} {ds : List D}, Paired (M.RV F σ) vs ds → ds.any isOwn = false → M.Reps F vs ds
  | _, _, .nil, _ => .nil
  | _, _, .cons h r, n => by
    simp only [List.any_cons, Bool.or_eq_false_iff] at n
    exact .cons ((rv_of n.1).mp h) (paired_reps r n.2)
theorem reps_paired : ∀ {vs : List V} {ds : List D}, M.Reps F vs ds → Paired (M.RV F σ) vs ds
  | _, _, .nil => .nil
  | _, _, .cons h r => .cons (by cases h <;> first | exact .non | exact .bl _ | exact .int _ | exact .str _ | exact .tup (by assumption) (by assumption) | exact .lst (by assumption) (by assumption) | exact .dct (by assumption) (by assumption) | exact .obj (by assumption) (by assumption) (by assumption) | exact .exc0 (by assumption) (by assumption) | exact .excF (by assumption) (by assumption) (by assumption) (by assumption)) (reps_paired r)
theorem paired_append {α β : Type} {P : α → β → Prop} : ∀ {xs : List α} {ys : List β} {xs' : List α} {ys' : List β}, Paired P xs ys → Paired P xs' ys' → Paired P (xs ++ xs') (ys ++ ys')
  | _, _, _, _, .nil, s => s
  | _, _, _, _, .cons h r, s => .cons h (paired_append r s)
theorem sA_nil : SA M k p lk [] [] := by
  intro X W g env σ F G H Q S hp
  rw [evEs] at hp
  exact sA_of pa_nil (hp.ok (Ex.refl _) S [] .nil)
theorem evEs_cons {ie : IE} (h : ∀ e', ie ≠ .star e') (ies : List IE) (env : Env) : evEs M.T (callF M.T k) lk (ie :: ies) env = ((evE M.T (callF M.T k) lk ie env).bind fun p => (evEs M.T (callF M.T k) lk ies p.2).bind fun q => .ok (p.1 :: q.1, q.2)) := by
  cases ie <;> first | rfl | exact absurd rfl (h _)
theorem sA_cons {es : List Expr} {ies : List IE} (hi : ∀ e', ie ≠ .star e') (hs : notStar e = true) (he : SE M k p lk e ie) (hr : SA M k p lk es ies) : SA M k p lk (e :: es) (ie :: ies) := by
  intro X W g env σ F G H Q S hp
  refine sA_of (pa_cons (peS X e) (paS X es) (starEach_cons hs es X.env)) (he X W g env σ F G H _ S ?_)
  rw [evEs_cons hi] at hp
  refine hp.bind fun d1 env1 F1 H1 e1 x1 S1 hp1 v1 r1 => hr X W g env1 σ F1 G H1 _ S1 (hp1.bind fun ds env2 F2 H2 e2 x2 S2 hp2 vs rs => ?_)
  exact hp2.ok (Ex.refl _) S2 (v1 :: vs) (.cons (rv_mono x2 r1) rs)
theorem seqOf_rx (S : M.St env σ F G H) {v : V} {d : D} {xs : List D} (r : M.RX F H v d) (h : seqOf d = some xs) : ∃ a vs, v = .ref a ∧ (SqT M.K H a vs ∨ SqL M.K H a vs) ∧ M.Reps F vs xs := by
  cases d with
  | lst ys =>
    cases h
    obtain ⟨a, vs, rfl, h1, h2⟩ := RX.lst r S.fh
    exact ⟨a, vs, rfl, .inr h1, h2⟩
  | tup ys =>
    cases h
    obtain ⟨a, vs, rfl, h1, h2, _⟩ := RX.tup r S.fh
    exact ⟨a, vs, rfl, .inl h1, h2⟩
  | _ => cases h
theorem seqOf_no {d : D} {xs : List D} (h : seqOf d = some xs) : isOwn d = false := by cases d <;> first | rfl | cases h
theorem sA_star {es : List Expr} {ies : List IE} {sp : Pos} (he : SE M k p lk e ie) (hr : SA M k p lk es ies) : SA M k p lk (.Starred e sp :: es) (.star ie :: ies) := by
  intro X W g env σ F G H Q S hp
  refine sA_of (StX.pa_star (peS X e) (paS X es)) (he X W g env σ F G H _ S ?_)
  rw [evEs] at hp
  refine hp.bind fun d1 env1 F1 H1 e1 x1 S1 hp1 v1 r1 => ?_
  obtain ⟨xs, hx, hp2⟩ := hp1.of
  obtain ⟨a, vs, rfl, h1, h2⟩ := seqOf_rx S1 (rx_of S1 r1 (seqOf_no hx)) hx
  refine ⟨a, vs, rfl, by rw [g.K]; exact h1, hr X W g env1 σ F1 G H1 _ S1 (hp2.bind fun ds env2 F2 H2 e2 x2 S2 hp3 ws rs => ?_)⟩
  exact hp3.ok (Ex.refl _) S2 (vs ++ ws) (paired_append (reps_paired (h2.mono x2)) rs)
theorem sE_tup {es : List Expr} {ies : List IE} {j : Nat} (hr : SA M k p lk es ies) : SE M k p lk (.Tuple es j pos) (.tup ies) := by
  intro X W g env σ F G H Q S hp
  refine sE_of (pe_tup (paS X es)) (hr X W g env σ F G H _ S ?_)
  rw [evE] at hp
  refine hp.bind fun ds env1 F1 H1 e1 x1 S1 hp1 vs rs => ?_
  obtain ⟨hn, hp2⟩ := hp1.ite
  simp only [Bool.or_eq_false_iff, Bool.not_eq_false', decide_eq_true_eq] at hn
  have rr := paired_reps rs hn.1
  refine ⟨by rw [rr.length]; exact hn.2, fun q hq => ?_⟩
  obtain ⟨x2, S2⟩ := S1.lay (o := .tup vs) hq
  exact hp2.ok x2 S2 _ (Rep.tup (SqT.of upd_same) (rr.mono x2))
theorem sN_lst {es : List Expr} {ies : List IE} (hr : SA M k p lk es ies) : SN M k p lk (.List es pos) (.lst ies) := by
  intro X W g env σ F G H Q S hp
  refine sE_of (pe_lst (paS X es)) (hr X W g env σ F G H _ S ?_)
  rw [evE] at hp
  refine hp.bind fun ds env1 F1 H1 e1 x1 S1 hp1 vs rs => ?_
  obtain ⟨hn, hp2⟩ := hp1.ite
  simp only [Bool.or_eq_false_iff, Bool.not_eq_false', decide_eq_true_eq] at hn
  have rr := paired_reps rs hn.1
  exact ⟨by rw [rr.length]; exact hn.2, fun q hq => Aft.lst (M := M) (env := env1) hp2 S1 hq rr⟩

/-! ### subscripts and slices -/
def plainIx : Expr → Bool
  | .Slice _ _ _ _ => false
  | .Tuple _ _ _ => false
  | .Constant _ _ _ => true
  | .Name _ _ => true
  | .BinOp _ _ _ _ => true
  | .UnaryOp _ _ _ => true
  | .Call _ _ _ _ => true
  | .Subscript _ _ _ => true
  | .Attribute _ _ _ => true
  | _ => false
theorem plainIx_ok {e : Expr} (h : plainIx e = true) : PlainIx e := by
  intro o i
  cases e <;> first | rfl | cases h
theorem atI_reps {vs : List V} {ds : List D} {i : Int} {d : D} (r : M.Reps F vs ds) (h : atI ds i = some d) : ∃ v, atI vs i = some v ∧ M.Rep F v d := by
  unfold atI at h ⊢
  rw [r.length]
  cases hj : ixN ds.length i with
  | none => rw [hj] at h; cases h
  | some j =>
    rw [hj] at h
    exact r.get h
theorem subD_no {d i x : D} (h : subD d i = some x) : isOwn d = false := by
  unfold subD at h
  split at h <;> first | rfl | cases h
def sX (X : Cx) : R2 := fun x y H Q => ∀ (value slice : Expr) (pins : List (Addr × Obj)) (s : Shared) (σ : L2.St) (v u : Value), Inv X pins σ H s → RelV x v → RelV y u → subscripted slice false v u = operate [v, u] (getItem v u) → wpAny (model X.prog X.w) X.A (subscriptTail value slice v u) (EP X pins σ Q) X.xe s
theorem sX_op : IxR X (sX X) := fun value slice pins s σ H x y v u Q I rx ry h hs => h value slice pins s σ v u I rx ry hs
theorem sX_of {r : R2} (h : IxR X r) {x y : V} {Q : VK} (q : r x y H Q) : sX X x y H Q := fun value slice pins s σ v u I rx ry hs => h value slice pins s σ H x y v u Q I rx ry q hs
theorem subD_ok (g : Good M k p W X) (S : M.St env σ F G H) {d1 d2 d : D} {v1 v2 : V} {Q : VK} (r1 : M.RX F H v1 d1) (r2 : M.Rep F v2 d2) (h : subD d1 d2 = some d) (q : ∀ v, M.Rep F v d → Q v H) : sX X v1 v2 H Q := by
  have hu1 : X.A.units + 1 < cLine := by have := g.room.units; omega
  unfold subD at h
  split at h
  · obtain ⟨a, vs, rfl, h1, h2⟩ := RX.lst r1 S.fh
    cases r2
    obtain ⟨v, hv, rv⟩ := atI_reps h2 h
    exact sX_of ix_list ⟨a, vs, _, v, rfl, rfl, by rw [g.K]; exact h1, hv, q v rv⟩
  · obtain ⟨a, vs, rfl, h1, h2, _⟩ := RX.tup r1 S.fh
    cases r2
    obtain ⟨v, hv, rv⟩ := atI_reps h2 h
    exact sX_of ix_tup ⟨a, vs, _, v, rfl, rfl, by rw [g.K]; exact h1, hv, q v rv⟩
  · rename_i s i
    split at h
    · rename_i hl
      cases hc : atI s.cps.toList i with
      | none => rw [hc] at h; cases h
      | some ch =>
        rw [hc] at h
        cases h
        cases r2
        rw [RX.str r1]
        exact sX_of ix_str ⟨s, i, ch, rfl, rfl, hl, hc, q _ (Rep.str _)⟩
    · cases h
  · rename_i kvs kk
    split at h
    · rename_i hk
      obtain ⟨key, rfl⟩ := key_of_d hk
      obtain ⟨a, ps, rfl, h1, h2⟩ := RX.dct r1 S.fh
      rcases keyGet_ok key h2 with ⟨e1, _⟩ | ⟨v, d', e1, e2, rv⟩
      · rw [e1] at h; cases h
      · rw [e1] at h; cases h
        rw [key_rx (.inl r2 : M.RX F F _ _)]
        exact sX_of (ix_dict hu1) ⟨a, v, rfl, .inl ⟨ps, key, h1, rfl, e2.symm⟩, q v rv⟩
    · cases h
  · cases h
theorem sE_sub (ha : SE M k p lk a ia) (hb : SE M k p lk b ib) (hx : plainIx b = true) : SE M k p lk (.Subscript a b pos) (.sub ia ib) := by
  intro X W g env σ F G H Q S hp
  refine sE_of (pe_ix sX_op (peS X a) (peS X b) (plainIx_ok hx)) (ha X W g env σ F G H _ S ?_)
  rw [evE] at hp
  refine hp.bind fun d1 env1 F1 H1 e1 x1 S1 hp1 v1 r1 => hb X W g env1 σ F1 G H1 _ S1 (hp1.bind fun d2 env2 F2 H2 e2 x2 S2 hp2 v2 r2 => ?_)
  obtain ⟨hn, hp3⟩ := hp2.ite
  obtain ⟨d, hd, hp4⟩ := hp3.of
  refine subD_ok g S2 (rx_of S2 (rv_mono x2 r1) (subD_no hd)) ((rv_of hn).mp r2) hd fun v rv => hp4.ok (Ex.refl _) S2 v ?_
  cases d with
  | own i => cases rv
  | _ => exact rv
end
end IV

set_option linter.all false
set_option Elab.async false
set_option maxRecDepth 100000
set_option maxHeartbeats 4000000
/-! IV5: slices, built-in functions (own work). -/
namespace IV
open PySem L2 PySem.Spec PyProof.Rows

section
variable {M : Mdl} {k : Nat} {p : Plc} {lk : Lk} {X : Cx} {W : WX} {e a b c : Expr} {ie ia ib ic : IE} {pos : Pos} {F F' G H H' : Hp} {env : Env} {σ : L2.St}

/-! ### slices -/
/-- a part of a slice -/
def sO (X : Cx) (e : Option Expr) : TO := fun σ H Q => ∀ (pins : List (Addr × Obj)) (s : Shared), Inv X pins σ H s → wpAny (model X.prog X.w) X.A (evalPart e X.env) (fun u s' => ∃ o H', Inv X pins σ H' s' ∧ IsPart u o ∧ Q o H') X.xe s
theorem poS (X : Cx) (e : Option Expr) : PO X e (sO X e) := ⟨fun pins s _ _ _ I h => h pins s I⟩
theorem sO_of {e : Option Expr} {t : TO} (h : PO X e t) {Q : Option Int → Hp → Prop} (q : t σ H Q) : sO X e σ H Q := fun pins s I => h.run pins s σ H Q I q
def SO (M : Mdl) (k : Nat) (p : Plc) (lk : Lk) (e : Option Expr) (ie : IE) : Prop := ∀ (X : Cx) (W : WX), Good M k p W X → ∀ (env : Env) (σ : L2.St) (F G H : Hp) (Q : Option Int → Hp → Prop), M.St env σ F G H →
  Post M W σ F G (fun d _ _ H' => ∃ o, bndE ie d = some o ∧ Q o H') (evE M.T (callF M.T k) lk ie env) → sO X e σ H Q
theorem sO_none : SO M k p lk none (.c .non) := by
  intro X W g env σ F G H Q S hp
  rw [evE] at hp
  obtain ⟨o, ho, q⟩ := hp F H (Ex.refl _) S
  cases ho
  exact sO_of po_none q
theorem sO_some (he : SE M k p lk e ie) (hc : absent ie = false) : SO M k p lk (some e) ie := by
  intro X W g env σ F G H Q S hp
  refine sO_of (po_some (peS X e)) (he X W g env σ F G H _ S (hp.imp fun d env1 F1 H1 q v r => ?_))
  obtain ⟨o, ho, q⟩ := q
  unfold bndE at ho
  rw [hc] at ho
  simp only [Bool.false_eq_true, if_false] at ho
  cases d with
  | int i =>
    cases ho
    cases (show Rep M.cl M.K F1 v (.int i) from r)
    exact ⟨i, rfl, q⟩
  | _ => cases ho
theorem slcD_no {d x : D} {lo hi : Option Int} (h : slcD d lo hi = some x) : isOwn d = false := by
  unfold slcD at h
  split at h <;> first | rfl | cases h
theorem cut_reps {vs : List V} {ds : List D} (r : M.Reps F vs ds) (lo hi : Option Int) : M.Reps F (cutV vs lo hi) (cutD ds lo hi) := by
  unfold cutV cutD
  rw [r.length]
  exact (r.drop _).take _
theorem sN_slc {lo hi : Option Expr} {il ih : IE} {p2 : Pos} (ha : SE M k p lk a ia) (hl : SO M k p lk lo il) (hh : SO M k p lk hi ih) : SN M k p lk (.Subscript a (.Slice lo hi none p2) pos) (.slc ia il ih) := by
  intro X W g env σ F G H Q S hp
  refine sE_of (pe_slice (sl_list.or (sl_tupA.or sl_str)) (peS X a) (poS X lo) (poS X hi)) (ha X W g env σ F G H _ S ?_)
  rw [evE] at hp
  refine hp.bind fun d1 env1 F1 H1 e1 x1 S1 hp1 v1 r1 => hl X W g env1 σ F1 G H1 _ S1 (hp1.bind fun d2 env2 F2 H2 e2 x2 S2 hp2 => ?_)
  obtain ⟨o1, h1, hp3⟩ := hp2.of
  refine ⟨o1, h1, hh X W g env2 σ F2 G H2 _ S2 (hp3.bind fun d3 env3 F3 H3 e3 x3 S3 hp4 => ?_)⟩
  obtain ⟨o2, h2, hp5⟩ := hp4.of
  refine ⟨o2, h2, ?_⟩
  obtain ⟨d, hd, hp6⟩ := hp5.of
  have q : Aft M σ F3 G env3 Q d := hp6
  have r := rx_of S3 (rv_mono (x2.trans x3) r1) (slcD_no hd)
  unfold slcD at hd
  split at hd
  · rename_i xs e; rw [e] at r
    cases hd
    obtain ⟨a, vs, rfl, h3, h4⟩ := RX.lst r S3.fh
    exact .inl ⟨a, vs, rfl, by rw [g.K]; exact h3, fun p hp => q.lst S3 hp (cut_reps h4 _ _)⟩
  · rename_i xs e; rw [e] at r
    cases hd
    obtain ⟨a, vs, rfl, h3, h4, h5⟩ := RX.tup r S3.fh
    refine .inr (.inl ⟨a, vs, rfl, by rw [g.K]; exact h3, fun hw => ?_, fun _ p hp => q.tup S3 hp (cut_reps h4 _ _)⟩)
    have ec : cutD xs o1 o2 = xs := by
      unfold cutD
      rw [← h4.length, hw.1, hw.2, h4.length]
      simp
    rw [ec] at q
    exact q.flat S3 rfl (Rep.tup h5 h4)
  · rename_i s e; rw [e] at r
    split at hd
    · rename_i hl
      cases hd
      exact .inr (.inr ⟨s, RX.str r, hl, q.flat S3 rfl (Rep.str _)⟩)
    · cases hd
  · cases hd

/-! ### built-in functions -/
/-- the written part: which built-in names are still the built-in ones -/
def bnames : List Str := ["len", "abs", "int", "str", "tuple", "list", "sorted", "set", "sum", "all", "any", "min", "max", "dict", "isinstance", "range", "enumerate", "zip", "bool"]
structure MOk (M : Mdl) : Prop where
  blt : ∀ x ∈ bnames, M.mg x = none
def sC (X : Cx) (f : Value) : List V → Hp → VK → Prop := fun vs H Q => ∀ (pins : List (Addr × Obj)) (s : Shared) (σ : L2.St) (us : List Value), Inv X pins σ H s → Vals vs us → wpAny (model X.prog X.w) X.A (call f us) (EP X pins σ Q) X.xe s
theorem sC_op {f : Value} : CallR X f (sC X f) := fun pins s σ H vs us Q I r h => h pins s σ us I r
theorem sC_of {f : Value} {r : List V → Hp → VK → Prop} (h : CallR X f r) {vs : List V} {Q : VK} (q : r vs H Q) : sC X f vs H Q := fun pins s σ us I rv => h pins s σ H vs us Q I rv q
def biNm : BI → Str
  | .len => "len" | .abs => "abs" | .int => "int" | .str => "str" | .tuple => "tuple" | .list => "list" | .sorted => "sorted" | .sset => "sorted" | .sum => "sum" | .all => "all" | .any => "any"
  | .min2 => "min" | .max2 => "max" | .min1 => "min" | .max1 => "max" | .dict => "dict" | .sitems => "sorted"
def biV : BI → Value
  | .len => .builtin "len" | .abs => .builtin "abs" | .int => .type "int" | .str => .type "str" | .tuple => .type "tuple" | .list => .type "list" | .sorted => .builtin "sorted" | .sset => .builtin "sorted"
  | .sum => .builtin "sum" | .all => .builtin "all" | .any => .builtin "any" | .min2 => .builtin "min" | .max2 => .builtin "max" | .min1 => .builtin "min" | .max1 => .builtin "max" | .dict => .type "dict" | .sitems => .builtin "sorted"
/-- names that are global here -/
def glb (p : Plc) (x : Str) : Bool := match p.sc.names.lookup x with
  | some .globalImplicit => true
  | _ => false
theorem gl_of (g : Good M k p W X) {x : Str} (h : glb p x = true) : Gl X x := by
  show X.env.scope.names.lookup x = some .globalImplicit
  rw [g.scope]
  unfold glb at h
  split at h
  · assumption
  · cases h
/-- those that are called as they stand -/
def plainBI : BI → Bool
  | .sset => false
  | .sitems => false
  | _ => true
theorem biNm_mem (b : BI) : biNm b ∈ bnames := by cases b <;> decide +kernel
theorem biNm_boot (b : BI) : bootBuiltins (biNm b) = some (biV b) := by cases b <;> decide +kernel
theorem biNm_ne (b : BI) : biNm b ≠ "__name__" ∧ ((biNm b) == ("__debug__" : Str)) = false := by cases b <;> decide +kernel
theorem pe_bi (mo : MOk M) (g : Good M k p W X) {b : BI} {es : List Expr} {pf : Pos} {t : TA} (hg : glb p (biNm b) = true) (hn : es ≠ []) (hs : es.all notStar = true) (ht : PA X es t) : PE X (.Call (.Name (biNm b) pf) es [] pos) (tCB (sC X (biV b)) t) := by
  cases es with
  | nil => exact absurd rfl hn
  | cons e es =>
    have h1 : X.mg (biNm b) = none := by rw [g.mg]; exact mo.blt _ (biNm_mem b)
    simp only [List.all_cons, Bool.and_eq_true] at hs
    have hst := starEach_cons hs.1 es X.env
    have hpl : (backTo pos (starEach es X.env)).any (·.1) = false := by
      have : ∀ es : List Expr, es.all notStar = true → (backTo pos (starEach es X.env)).any (·.1) = false := by
        intro es
        induction es with
        | nil => intro _; rfl
        | cons e es ih =>
          intro h
          simp only [List.all_cons, Bool.and_eq_true] at h
          rw [starEach_cons h.1]
          show (false || (backTo pos (starEach es X.env)).any (·.1)) = false
          rw [ih h.2]; rfl
      exact this es hs.2
    cases hv : biV b with
    | builtin id => exact pe_callB sC_op (gl_of g hg) h1 (by rw [biNm_boot, hv]) ht (biNm_ne b).1 (biNm_ne b).2 hst hpl
    | type T => exact pe_callTy sC_op (gl_of g hg) h1 (by rw [biNm_boot, hv]) ht (biNm_ne b).1 (biNm_ne b).2 hst hpl
    | _ => cases b <;> cases hv

/-! ### sorting -/
theorem ins_perm {α : Type} (le : α → α → Bool) (x : α) : ∀ ys : List α, (ins le x ys).Perm (x :: ys)
  | [] => .refl _
  | y :: ys => by
    unfold ins
    split
    · exact .refl _
    · exact ((ins_perm le x ys).cons y).trans (.swap x y ys)
theorem isort_perm {α : Type} (le : α → α → Bool) : ∀ xs : List α, (isort le xs).Perm xs
  | [] => .refl _
  | x :: xs => (ins_perm le x _).trans ((isort_perm le xs).cons x)
theorem ins_sorted {α : Type} {le : α → α → Bool} (tot : ∀ a b, le a b = false → le b a = true) (tr : ∀ a b c, le a b = true → le b c = true → le a c = true) (x : α) : ∀ {ys : List α}, ys.Pairwise (fun a b => le a b = true) → (ins le x ys).Pairwise (fun a b => le a b = true)
  | [], _ => by unfold ins; simp
  | y :: ys, h => by
    unfold ins
    rw [List.pairwise_cons] at h
    split
    · rename_i hl
      rw [List.pairwise_cons]
      refine ⟨fun z hz => ?_, List.pairwise_cons.mpr h⟩
      rcases List.mem_cons.mp hz with rfl | hz
      · exact hl
      · exact tr _ _ _ hl (h.1 z hz)
    · rename_i hl
      rw [List.pairwise_cons]
      refine ⟨fun z hz => ?_, ins_sorted tot tr x h.2⟩
      rcases List.mem_cons.mp ((ins_perm le x ys).mem_iff.mp hz) with rfl | hz
      · exact tot _ _ (by simpa using hl)
      · exact h.1 z hz
theorem isort_sorted {α : Type} {le : α → α → Bool} (tot : ∀ a b, le a b = false → le b a = true) (tr : ∀ a b c, le a b = true → le b c = true → le a c = true) : ∀ xs : List α, (isort le xs).Pairwise (fun a b => le a b = true)
  | [] => by unfold isort; simp
  | x :: xs => ins_sorted tot tr x (isort_sorted tot tr xs)
theorem isort_uniq {α : Type} {le : α → α → Bool} (tot : ∀ a b, le a b = false → le b a = true) (tr : ∀ a b c, le a b = true → le b c = true → le a c = true) (anti : ∀ a b, le a b = true → le b a = true → a = b) {xs ys : List α} (hp : ys.Perm xs) (hs : ys.Pairwise (fun a b => le a b = true)) : ys = isort le xs :=
  (hp.trans (isort_perm le xs).symm).eq_of_pairwise (fun a b _ _ h1 h2 => anti a b h1 h2) hs (isort_sorted tot tr xs)
theorem leI_tot (a b : Int) (h : leI a b = false) : leI b a = true := by simp [leI] at *; omega
theorem leI_tr (a b c : Int) (h : leI a b = true) (h' : leI b c = true) : leI a c = true := by simp [leI] at *; omega
theorem leI_anti (a b : Int) (h : leI a b = true) (h' : leI b a = true) : a = b := by simp [leI] at *; omega
theorem leS_tot (a b : Str) (h : leS a b = false) : leS b a = true := by
  simp only [leS, Bool.not_eq_false', decide_eq_true_eq, Bool.not_eq_true', decide_eq_false_iff_not] at *
  exact List.lt_asymm h
theorem leS_tr (a b c : Str) (h : leS a b = true) (h' : leS b c = true) : leS a c = true := by
  simp only [leS, Bool.not_eq_true', decide_eq_false_iff_not] at *
  exact fun z => by
    have h1 : a.cps.toList ≤ b.cps.toList := h
    have h2 : b.cps.toList ≤ c.cps.toList := h'
    exact (List.le_trans h1 h2) z
theorem leS_anti (a b : Str) (h : leS a b = true) (h' : leS b a = true) : a = b := by
  simp only [leS, Bool.not_eq_true', decide_eq_false_iff_not] at *
  have h1 : a.cps.toList ≤ b.cps.toList := h
  have h2 : b.cps.toList ≤ a.cps.toList := h'
  exact TL.ext_tl (List.le_antisymm h1 h2)
end
end IV

set_option linter.all false
set_option Elab.async false
set_option maxRecDepth 100000
set_option maxHeartbeats 4000000
/-! IV6: what built-in functions and methods do (own work). -/
namespace IV
open PySem L2 PySem.Spec PyProof.Rows

section
variable {M : Mdl} {k : Nat} {p : Plc} {lk : Lk} {X : Cx} {W : WX} {e a b c : Expr} {ie ia ib ic : IE} {pos : Pos} {F F' G H H' : Hp} {env : Env} {σ : L2.St}

theorem sortedS_pw : ∀ {ys : List Str}, sortedS ys = true → ys.Pairwise (fun a b => leS a b = true)
  | [], _ => .nil
  | [x], _ => by simp
  | x :: y :: r, h => by
    have h' : (!ltCps y.cps.toList x.cps.toList && risingS y r) = true := h
    rw [Bool.and_eq_true] at h'
    have ih := sortedS_pw (ys := y :: r) h'.2
    have hl : leS x y = true := by rw [ltCps_eq] at h'; exact h'.1
    rw [List.pairwise_cons]
    refine ⟨fun z hz => ?_, ih⟩
    rcases List.mem_cons.mp hz with rfl | hz
    · exact hl
    · exact leS_tr _ _ _ hl ((List.pairwise_cons.mp ih).1 z hz)
theorem sortS_eq {xs ys : List Str} (hp : ys.Perm xs) (hs : sortedS ys = true) : ys = isort leS xs := isort_uniq leS_tot leS_tr leS_anti hp (sortedS_pw hs)
theorem sortI_eq {xs ys : List Int} (hp : ys.Perm xs) (hs : ys.Pairwise (· ≤ ·)) : ys = isort leI xs := isort_uniq leI_tot leI_tr leI_anti hp (hs.imp fun h => by simpa [leI] using h)

theorem call_lenDR : CallR X (.builtin "len") (fun xs H Q => ∃ a kvs, xs = [V.ref a] ∧ Rd H a (.dK kvs) ∧ Q (.int kvs.length) H) := by
  intro pins s σ H xs us Q I r h
  obtain ⟨a, kvs, rfl, hd, q⟩ := h
  cases r with
  | cons r1 r2 =>
    cases r2
    cases r1
    exact d_len I hd fun t s' I' => ⟨.int _, H, I', ⟨_, rfl⟩, q⟩

/-- one value -/
theorem paired1 {P : V → D → Prop} {vs : List V} {d : D} (h : Paired P vs [d]) : ∃ v, vs = [v] ∧ P v d := by
  cases h with
  | cons h r => cases r; exact ⟨_, rfl, h⟩
theorem paired2 {P : V → D → Prop} {vs : List V} {d d' : D} (h : Paired P vs [d, d']) : ∃ v v', vs = [v, v'] ∧ P v d ∧ P v' d' := by
  cases h with
  | cons h r => cases r with | cons h' r => cases r; exact ⟨_, _, rfl, h, h'⟩
theorem biD_ok (g : Good M k p W X) (S : M.St env σ F G H) {b : BI} {ds : List D} {d : D} {vs : List V} {Q : VK} (hpl : plainBI b = true) (h : biD b ds = some d) (rr : Paired (M.RX F H) vs ds) (q : Aft M σ F G env Q d) : sC X (biV b) vs H Q := by
  unfold biD at h
  split at h
  · obtain ⟨v, rfl, r⟩ := paired1 rr
    split at h
    · rename_i hl
      cases h
      rw [RX.str r]
      exact sC_of call_len_str ⟨_, rfl, hl, q.flat S rfl (Rep.int _)⟩
    · cases h
  · obtain ⟨v, rfl, r⟩ := paired1 rr
    cases h
    obtain ⟨a, ws, rfl, h1, h2⟩ := RX.lst r S.fh
    refine sC_of call_len_seq ⟨a, ws, rfl, .inl (by rw [g.K]; exact h1), ?_⟩
    rw [h2.length]
    exact q.flat S rfl (Rep.int _)
  · obtain ⟨v, rfl, r⟩ := paired1 rr
    cases h
    obtain ⟨a, ws, rfl, h1, h2, _⟩ := RX.tup r S.fh
    refine sC_of call_len_seq ⟨a, ws, rfl, .inr (by rw [g.K]; exact h1), ?_⟩
    rw [h2.length]
    exact q.flat S rfl (Rep.int _)
  · obtain ⟨v, rfl, r⟩ := paired1 rr
    cases h
    obtain ⟨a, ws, rfl, h1, h2⟩ := RX.dct r S.fh
    refine sC_of call_lenDR ⟨a, ws, rfl, h1, ?_⟩
    rw [h2.length]
    exact q.flat S rfl (Rep.int _)
  · obtain ⟨v, rfl, r⟩ := paired1 rr
    cases h
    rw [RX.int r]
    exact sC_of call_abs ⟨_, rfl, q.flat S rfl (Rep.int _)⟩
  · obtain ⟨v, rfl, r⟩ := paired1 rr
    cases h
    rw [RX.int r]
    exact sC_of call_int1 (.inl ⟨_, rfl, q.flat S rfl (Rep.int _)⟩)
  · obtain ⟨v, rfl, r⟩ := paired1 rr
    cases h
    rw [RX.bl r]
    exact sC_of call_int1 (.inr ⟨_, rfl, q.flat S rfl (Rep.int _)⟩)
  · obtain ⟨v, rfl, r⟩ := paired1 rr
    split at h
    · rename_i hl
      rw [Option.map_eq_some_iff] at h
      obtain ⟨n, h1, rfl⟩ := h
      rw [RX.str r]
      exact sC_of call_int_str ⟨_, n, rfl, h1, hl, q.flat S rfl (Rep.int _)⟩
    · cases h
  · obtain ⟨v, rfl, r⟩ := paired1 rr
    split at h
    · rename_i hl
      cases h
      rw [RX.int r]
      exact sC_of call_str_int ⟨_, rfl, hl, q.flat S rfl (Rep.str _)⟩
    · cases h
  · obtain ⟨v, rfl, r⟩ := paired1 rr
    cases h
    obtain ⟨a, ws, rfl, h1, h2⟩ := RX.lst r S.fh
    exact sC_of call_tuple_of ⟨a, ws, rfl, .inl ⟨by rw [g.K]; exact h1, fun l hl => q.tup S hl h2⟩⟩
  · obtain ⟨v, rfl, r⟩ := paired1 rr
    cases h
    obtain ⟨a, ws, rfl, h1, h2, h3⟩ := RX.tup r S.fh
    exact sC_of call_tuple_of ⟨a, ws, rfl, .inr ⟨by rw [g.K]; exact h1, q.flat S rfl (Rep.tup h3 h2)⟩⟩
  · obtain ⟨v, rfl, r⟩ := paired1 rr
    cases h
    obtain ⟨a, ws, rfl, h1, h2⟩ := RX.lst r S.fh
    exact sC_of call_list_of ⟨a, ws, rfl, .inl (by rw [g.K]; exact h1), fun l hl => q.lst S hl h2⟩
  · obtain ⟨v, rfl, r⟩ := paired1 rr
    cases h
    obtain ⟨a, ws, rfl, h1, h2, h3⟩ := RX.tup r S.fh
    exact sC_of call_list_of ⟨a, ws, rfl, .inr (by rw [g.K]; exact h1), fun l hl => q.lst S hl h2⟩
  · obtain ⟨v, rfl, r⟩ := paired1 rr
    cases h
    obtain ⟨a, ws, rfl, h1, h2⟩ := RX.dct r S.fh
    exact sC_of (call_listD g.calm) ⟨a, ws, rfl, h1, fun l hl => q.lst S hl h2.keyReps⟩
  · rename_i xs
    obtain ⟨v, rfl, r⟩ := paired1 rr
    obtain ⟨a, ws, rfl, h1, h2⟩ := RX.lst r S.fh
    unfold srt at h
    split at h
    · rename_i hl
      cases hi : dInts xs with
      | some ns =>
        rw [hi] at h
        cases h
        have ew := h2.ints hi
        subst ew
        refine sC_of cr_sorted ⟨a, ns, rfl, by rw [g.K]; exact h1, by have := h2.length; simp at this; omega, fun ns' p hp hs hn => ?_⟩
        rw [sortI_eq hp hs]
        exact q.lst S hn (Reps.of_ints _)
      | none =>
        rw [hi] at h
        cases hi' : dStrs xs with
        | some ns =>
          rw [hi'] at h
          cases h
          have ew := h2.strs hi'
          subst ew
          refine sC_of cr_sortedS ⟨a, ns, rfl, by rw [g.K]; exact h1, by have := h2.length; simp at this; omega, fun ns' p hp hs hn => ?_⟩
          rw [sortS_eq hp hs]
          exact q.lst S hn (Reps.of_strs _)
        | none => rw [hi'] at h; cases h
    · cases h
  · rename_i kvs
    obtain ⟨v, rfl, r⟩ := paired1 rr
    obtain ⟨a, ws, rfl, h1, h2⟩ := RX.dct r S.fh
    have hk := h2.keyReps
    unfold srt at h
    split at h
    · rename_i hl
      cases hi : dInts (kvs.map (·.1)) with
      | some ns =>
        rw [hi] at h
        cases h
        have ew := hk.ints hi
        refine sC_of (call_sortedDI g.calm) ⟨a, ws, ns, rfl, h1, ?_, by have := hk.length; rw [ew] at this; simp at this hl; omega, fun ns' p hp hs hn => ?_⟩
        · have e2 : (ws.map (·.1)).map kV = (ns.map Sum.inl).map kV := by
            rw [List.map_map, List.map_map]; exact ew
          exact kVs_inj e2
        · rw [sortI_eq hp hs]
          exact q.lst S hn (Reps.of_ints _)
      | none =>
        rw [hi] at h
        cases hi' : dStrs (kvs.map (·.1)) with
        | some ns =>
          rw [hi'] at h
          cases h
          have ew := hk.strs hi'
          refine sC_of (call_sortedD g.calm) ⟨a, ws, ns, rfl, h1, ?_, by have := hk.length; rw [ew] at this; simp at this hl; omega, fun ns' p hp hs hn => ?_⟩
          · have e2 : (ws.map (·.1)).map kV = (ns.map Sum.inr).map kV := by
              rw [List.map_map, List.map_map]; exact ew
            exact kVs_inj e2
          · rw [sortS_eq hp hs]
            exact q.lst S hn (Reps.of_strs _)
        | none => rw [hi'] at h; cases h
    · cases h
  · cases hpl
  · rename_i xs
    obtain ⟨v, rfl, r⟩ := paired1 rr
    obtain ⟨a, ws, rfl, h1, h2⟩ := RX.lst r S.fh
    cases hi : dInts xs with
    | none => rw [hi] at h; cases h
    | some ns =>
      rw [hi] at h
      cases h
      have ew := h2.ints hi
      subst ew
      exact sC_of (cr_sum g.calm) ⟨a, ns, rfl, by rw [g.K]; exact h1, q.flat S rfl (Rep.int _)⟩
  · rename_i xs
    obtain ⟨v, rfl, r⟩ := paired1 rr
    obtain ⟨a, ws, rfl, h1, h2⟩ := RX.lst r S.fh
    cases hi : bools xs with
    | none => rw [hi] at h; cases h
    | some ns =>
      rw [hi] at h
      cases h
      have ew := h2.bools hi
      subst ew
      exact sC_of (cr_all g.calm) ⟨a, ns, rfl, by rw [g.K]; exact h1, q.flat S rfl (Rep.bl _)⟩
  · rename_i xs
    obtain ⟨v, rfl, r⟩ := paired1 rr
    obtain ⟨a, ws, rfl, h1, h2⟩ := RX.lst r S.fh
    cases hi : bools xs with
    | none => rw [hi] at h; cases h
    | some ns =>
      rw [hi] at h
      cases h
      have ew := h2.bools hi
      subst ew
      exact sC_of (cr_any g.calm) ⟨a, ns, rfl, by rw [g.K]; exact h1, q.flat S rfl (Rep.bl _)⟩
  · obtain ⟨v, v', rfl, r, r'⟩ := paired2 rr
    cases h
    rw [RX.int r, RX.int r']
    exact sC_of (call_min2 g.calm) ⟨_, _, rfl, q.flat S rfl (Rep.int _)⟩
  · obtain ⟨v, v', rfl, r, r'⟩ := paired2 rr
    cases h
    rw [RX.int r, RX.int r']
    exact sC_of (call_max2 g.calm) ⟨_, _, rfl, q.flat S rfl (Rep.int _)⟩
  · cases h
theorem biD_no {b : BI} {ds : List D} {d : D} (h : biD b ds = some d) : ds.any isOwn = false := by
  unfold biD at h
  split at h <;> first | rfl | cases h
theorem rxs_of (S : M.St env σ F G H) : ∀ {vs : List V} {ds : List D}, Paired (M.RV F σ) vs ds → (ds.map (res env)).any isOwn = false → Paired (M.RX F H) vs (ds.map (res env))
  | _, _, .nil, _ => .nil
  | _, _, .cons h r, n => by
    simp only [List.map_cons, List.any_cons, Bool.or_eq_false_iff] at n
    exact .cons (rx_of S h n.1) (rxs_of S r n.2)
theorem sN_bi (mo : MOk M) {bb : BI} {es : List Expr} {ies : List IE} {pf : Pos} (hg : glb p (biNm bb) = true) (hn : es ≠ []) (hs : es.all notStar = true) (hpl : plainBI bb = true) (hr : SA M k p lk es ies) : SN M k p lk (.Call (.Name (biNm bb) pf) es [] pos) (.bi bb ies) := by
  intro X W g env σ F G H Q S hp
  refine sE_of (pe_bi mo g hg hn hs (paS X es)) (hr X W g env σ F G H _ S ?_)
  rw [evE] at hp
  refine hp.bind fun ds env1 F1 H1 e1 x1 S1 hp1 vs rs => ?_
  obtain ⟨d, hd, hp2⟩ := hp1.of
  exact biD_ok g S1 hpl hd (rxs_of S1 rs (biD_no hd)) hp2

/-! ### isinstance -/
theorem tyX_of (S : M.St env σ F G H) {v : V} {d : D} {t : String} (r : M.RX F H v d) (h : tyOf d = some t) : TyX M.K H v (.type t) := by
  cases d with
  | non => cases h; rw [RX.non r]; exact .base .non
  | bl b => cases h; rw [RX.bl r]; exact .base (.bl _)
  | int b => cases h; rw [RX.int r]; exact .base (.int _)
  | str b => cases h; rw [RX.str r]; exact .base (.str _)
  | lst xs =>
    cases h
    obtain ⟨a, ws, rfl, h1, h2⟩ := RX.lst r S.fh
    rcases h1 with (h1 | ⟨o, h1⟩) | ⟨o, its, n, h1, h3, _⟩
    · exact .base (.lst h1)
    · exact .base (.frz h1)
    · exact .kList h1 h3
  | tup xs =>
    cases h
    obtain ⟨a, ws, rfl, h1, h2, _⟩ := RX.tup r S.fh
    rcases h1 with (h1 | ⟨o, h1⟩) | ⟨o, its, n, h1, h3, _⟩
    · exact .base (.tup h1)
    · exact .fTuple h1
    · exact .kTuple h1 h3
  | dct xs =>
    cases h
    obtain ⟨a, ws, rfl, h1, h2⟩ := RX.dct r S.fh
    rcases h1 with h1 | ⟨o, h1⟩
    · exact .base (.dK h1)
    · exact .fDict h1
  | obj _ _ => cases h
  | exc _ _ => cases h
  | own _ => cases h
theorem tyIs_kit {K : PySem.W.Frag} {d : D} {t : Ty} {b : Bool} (h : tyIs d t = some b) : ∃ a c, tyOf d = some a ∧ tyNm t = some c ∧ PySem.W.kitOne K (.type a) (.type c) = some b := by
  cases d <;> cases t <;> first | (cases h; done) | (cases h; exact ⟨_, _, rfl, rfl, kit_ty (by decide +kernel)⟩)
theorem tyAny_kit {K : PySem.W.Frag} {d : D} {a : String} (ha : tyOf d = some a) : ∀ {ts : List Ty} {b : Bool}, tyAny d ts = some b → ∃ cs : List String, ts.map tyNm = cs.map some ∧ PySem.W.kitAny K (.type a) (cs.map Value.type) = some b
  | [], b, h => by cases h; exact ⟨[], rfl, rfl⟩
  | t :: ts, b, h => by
    unfold tyAny at h
    cases h1 : tyIs d t with
    | none => rw [h1] at h; cases h
    | some b1 =>
      rw [h1] at h
      cases h2 : tyAny d ts with
      | none => rw [h2] at h; cases h
      | some b2 =>
        rw [h2] at h
        cases h
        obtain ⟨a', c, e1, e2, e3⟩ := tyIs_kit (K := K) h1
        rw [ha] at e1
        cases e1
        obtain ⟨cs, e4, e5⟩ := tyAny_kit (K := K) ha h2
        refine ⟨c :: cs, by rw [List.map_cons, List.map_cons, e2, e4], kitAny_cons e3 (fun z => ?_) (fun z => ?_)⟩
        · rw [z]; exact e5
        · rw [z]; rfl
theorem tyAny_of (K : PySem.W.Frag) {d : D} {ts : List Ty} {b : Bool} (hn : ts ≠ []) (h : tyAny d ts = some b) : ∃ a, tyOf d = some a := by
  cases ts with
  | nil => exact absurd rfl hn
  | cons t ts =>
    unfold tyAny at h
    cases h1 : tyIs d t with
    | none => rw [h1] at h; cases h
    | some b1 =>
      obtain ⟨a, c, e1, _, _⟩ := tyIs_kit (K := K) h1
      exact ⟨a, e1⟩
/-- a class by its name -/
def chkTy (p : Plc) : Ty → Expr → Bool
  | t, .Name x _ => (match tyNm t with
    | some c => decide (x = (c : Str)) && glb p x
    | none => false)
  | _, _ => false
def chkTys (p : Plc) : List Ty → List Expr → Bool
  | [], [] => true
  | t :: ts, e :: es => chkTy p t e && chkTys p ts es
  | _, _ => false
theorem tyNm_facts {t : Ty} {c : String} (h : tyNm t = some c) : (c : Str) ∈ bnames ∧ bootBuiltins (c : Str) = some (.type c) ∧ (c : Str) ≠ "__name__" ∧ ((c : Str) == ("__debug__" : Str)) = false := by
  cases t <;> first | (cases h; done) | (cases h; refine ⟨by decide +kernel, by decide +kernel, by decide +kernel, by decide +kernel⟩)
theorem pe_ty (mo : MOk M) (g : Good M k p W X) {t : Ty} {e : Expr} (h : chkTy p t e = true) : ∃ c, tyNm t = some c ∧ PE X e (tC (.ty c)) := by
  unfold chkTy at h
  split at h
  · split at h
    · rename_i c hc
      simp only [Bool.and_eq_true, decide_eq_true_eq] at h
      obtain ⟨rfl, h2⟩ := h
      obtain ⟨h3, h4, h5, h6⟩ := tyNm_facts hc
      exact ⟨c, hc, pe_bltn (gl_of g h2) (by rw [g.mg]; exact mo.blt _ h3) h4 rfl h5 h6⟩
    · cases h
  · cases h
theorem chkTy_notStar {t : Ty} {e : Expr} (h : chkTy p t e = true) : notStar e = true := by
  unfold chkTy at h
  split at h
  · rfl
  · cases h
theorem pa_tys (mo : MOk M) (g : Good M k p W X) : ∀ {ts : List Ty} {es : List Expr}, chkTys p ts es = true → ∃ cs : List String, ts.map tyNm = cs.map some ∧ ∃ t, PA X es t ∧ ∀ σ H Q, Q (cs.map V.ty) H → t σ H Q
  | [], [], _ => ⟨[], rfl, _, pa_nil, fun _ _ _ h => h⟩
  | t :: ts, e :: es, h => by
    unfold chkTys at h
    rw [Bool.and_eq_true] at h
    obtain ⟨c, hc, pe⟩ := pe_ty mo g h.1
    obtain ⟨cs, hcs, t', pa, ht⟩ := pa_tys mo g h.2
    exact ⟨c :: cs, by rw [List.map_cons, List.map_cons, hc, hcs], _, pa_cons pe pa (starEach_cons (chkTy_notStar h.1) es X.env), fun σ H Q q => ht σ H _ q⟩
  | [], _ :: _, h => by cases h
  | _ :: _, [], h => by cases h
theorem paired_cls : ∀ cs : List String, Paired ClsV (cs.map V.ty) (cs.map Value.type)
  | [] => .nil
  | c :: cs => .cons (.ty c) (paired_cls cs)
theorem isi_facts : ("isinstance" : Str) ∈ bnames ∧ bootBuiltins "isinstance" = some (.builtin "isinstance") := ⟨by decide +kernel, by decide +kernel⟩
theorem sE_isi1 (mo : MOk M) {t : Ty} {et : Expr} {pf : Pos} (hg : glb p "isinstance" = true) (ha : SE M k p lk a ia) (hs : notStar a = true) (ht : chkTy p t et = true) : SE M k p lk (.Call (.Name "isinstance" pf) [a, et] [] pos) (.isi ia [t]) := by
  intro X W g env σ F G H Q S hp
  obtain ⟨c, hc, pe⟩ := pe_ty mo g ht
  refine sE_of (pe_callB (call_isi) (gl_of g hg) (by rw [g.mg]; exact mo.blt _ isi_facts.1) isi_facts.2 (pa_cons (peS X a) (pa_cons pe pa_nil (starEach_cons (chkTy_notStar ht) [] X.env)) (starEach_cons hs _ X.env)) (by decide) (by decide) (starEach_cons hs _ X.env) ?_) (ha X W g env σ F G H _ S ?_)
  · rw [starEach_cons (chkTy_notStar ht)]; rfl
  · rw [evE] at hp
    refine hp.bind fun d env1 F1 H1 e1 x1 S1 hp1 v r => ?_
    obtain ⟨b, hb, hp2⟩ := hp1.of
    have hb' : tyIs (res env1 d) t = some b := by
      unfold tyAny tyAny at hb
      cases h1 : tyIs (res env1 d) t with
      | none => simp only [h1] at hb; cases hb
      | some b1 => simp only [h1, Option.bind_some, Bool.or_false] at hb; exact hb
    obtain ⟨ta, cc, e1, e2, e3⟩ := tyIs_kit (K := X.K) hb'
    rw [hc] at e2
    cases e2
    have hn : isOwn (res env1 d) = false := by cases h : res env1 d <;> first | rfl | (rw [h] at e1; cases e1)
    exact ⟨v, .ty c, _, _, b, rfl, .ty c, by rw [g.K]; exact tyX_of S1 (rx_of S1 r hn) e1, e3, hp2.ok (Ex.refl _) S1 _ (Rep.bl _)⟩
theorem sE_isiT (mo : MOk M) {ts : List Ty} {ets : List Expr} {pf pt : Pos} {j : Nat} (hg : glb p "isinstance" = true) (ha : SE M k p lk a ia) (hs : notStar a = true) (hn : ts ≠ []) (hl : ts.length ≤ 100) (ht : chkTys p ts ets = true) : SE M k p lk (.Call (.Name "isinstance" pf) [a, .Tuple ets j pt] [] pos) (.isi ia ts) := by
  intro X W g env σ F G H Q S hp
  obtain ⟨cs, hcs, t, pa, hpa⟩ := pa_tys mo g ht
  refine sE_of (pe_callB (call_isiT) (gl_of g hg) (by rw [g.mg]; exact mo.blt _ isi_facts.1) isi_facts.2 (pa_cons (peS X a) (pa_cons (pe_tup pa) pa_nil rfl) (starEach_cons hs _ X.env)) (by decide) (by decide) (starEach_cons hs _ X.env) rfl) (ha X W g env σ F G H _ S ?_)
  rw [evE] at hp
  refine hp.bind fun d env1 F1 H1 e1 x1 S1 hp1 v r => hpa _ _ _ ⟨?_, fun tp htp => ?_⟩
  · have := congrArg List.length hcs
    simp only [List.length_map] at this ⊢
    rw [← this, sizeLine_eq]
    omega
  obtain ⟨b, hb, hp2⟩ := hp1.of
  obtain ⟨ta, e1⟩ := tyAny_of M.K hn hb
  have hno : isOwn (res env1 d) = false := by cases h : res env1 d <;> first | rfl | (rw [h] at e1; cases e1)
  obtain ⟨cs', hcs', hk⟩ := tyAny_kit (K := X.K) e1 hb
  have ecs : cs' = cs := by
    have : cs'.map some = cs.map some := hcs'.symm.trans hcs
    exact (List.map_inj_right (fun _ _ h => Option.some.inj h)).mp this
  subst ecs
  obtain ⟨S2, fp, gp, own⟩ := S1.new (o := .tup (cs'.map V.ty)) htp
  refine ⟨v, tp, cs'.map V.ty, .type ta, cs'.map Value.type, b, rfl, upd_same, paired_cls _, by rw [g.K]; exact tyX_of S2 (rx_of S2 r hno) e1, hk, hp2.ok (Ex.refl _) S2 _ (Rep.bl _)⟩
end
end IV

set_option linter.all false
set_option Elab.async false
set_option maxRecDepth 100000
set_option maxHeartbeats 4000000
/-! IV7: calls of defs (own work). -/
namespace IV
open PySem L2 PySem.Spec PyProof.Rows

section
variable {X : Cx} {CX : CXT} {k : Nat} {f : Addr} {fd : FuncData} {ps : List Str} {sp : Sp} {E : L2.St → XK} {x : Str} {p pos : Pos}
theorem pe_callS0 (F : FnOk X.prog X.w X.K X.mg X.base CX k f fd ps sp) (hr : Room k X.A) (hg : Gl X x) (hm : X.mg x = some (.ref f)) (hk : PySem.W.keepIn X.K (.ref f) = true) (hb : Binds X.K fd ps []) (hx : ∀ σ, PassesAt CX X σ (E σ))
    (hdb : (x == ("__debug__" : Str)) = false) : PE X (.Call (.Name x p) [] [] pos) (tCallSD sp [] E tNil) := by
  refine ⟨fun pins s σ H Q I h => ?_⟩
  refine wpAny_Call_Name_kw (ld_glob I hg hm ?_ hdb)
  exact PySem.W.callWith_K0 I.kIn hk (run_fnSD (us := []) F hr hb .nil (hx σ) I .nil h)
end

/-- what is wanted of a call's end -/
def PR (M : Mdl) (fresh : Bool) (G : Hp) (outs : Env) (vs : List V) (Q : VK) (d : D) (F' H' : Hp) : Prop :=
  if fresh then ∀ a, F' a = none → G a = none → (∀ i, ¬ Owns outs (vs.map some) i a) → OwnAt M.cl M.K F' H' a d → Q (.ref a) H' else ∀ v, M.Rep F' v d → Q v H'
def PC (M : Mdl) (fresh : Bool) (vs : List V) (F G : Hp) (Q : VK) (E : XK) : R (D × Env) → Prop
  | .ok p => ∀ F' H', Ex F F' → M.St p.2 (vs.map some) F' G H' → PR M fresh G p.2 vs Q p.1 F' H'
  | .ex c fs _ => ∀ cls dd F' H', Ex F F' → M.St [] [] F' G H' → XOk M F' H' cls dd c fs → E cls dd H'
  | .no => False
/-- the promise of the def f, at most k calls deep -/
def spF (M : Mdl) (k f : Nat) : Sp := fun vs H Q E => ∃ (Fn : IFun) (as : Env) (F G : Hp), M.T.fn f = some Fn ∧ vs.length = Fn.np ∧ M.St as (vs.map some) F G H ∧ PC M Fn.fresh vs F G Q E (callF M.T k f as)
structure FnAt (M : Mdl) (k f : Nat) (Fn : IFun) (fa : Addr) (fd : FuncData) (ps : List Str) : Prop where
  mg : M.mg (M.fnm f) = some (.ref fa)
  kp : PySem.W.keepIn M.K (.ref fa) = true
  bd : Binds M.K fd ps []
  len : ps.length = Fn.np
  dbg : ((M.fnm f) == ("__debug__" : Str)) = false
  ok : FnOk M.P M.w M.K M.mg M.base (L2.CX M.P M.w) k fa fd ps (spF M k f)
  kb : ∀ n ks, (n, ks) ∈ Fn.kws → ∀ (s : Shared) (us ws zs : List Value), M.K.In s.heap → us.length = n → ws.length = ks.length → arr Fn.np us ks ws = some zs → BindsTo s fd ⟨us, (ks.map fun j => ps.getD j "").zip ws⟩ (ps.zip zs)
def FnsOk (M : Mdl) (k : Nat) : Prop := ∀ f Fn, M.T.fn f = some Fn → ∃ fa fd, FnAt M k f Fn fa fd (M.pnm f)

section
variable {M : Mdl} {k : Nat} {p : Plc} {lk : Lk} {X : Cx} {W : WX} {e a b c : Expr} {ie ia ib ic : IE} {pos : Pos} {F F' G H H' : Hp} {env : Env} {σ : L2.St}

open Classical in
/-- what belongs to nobody that is called with these arguments -/
noncomputable def restH (F H : Hp) (io : Addr → Prop) : Hp := fun a => if F a ≠ none ∨ io a then none else H a
theorem restH_some {io : Addr → Prop} {a : Addr} {o : HO} (h : restH F H io a = some o) : F a = none ∧ ¬ io a ∧ H a = some o := by
  unfold restH at h
  split at h
  · cases h
  · rename_i hn
    simp only [not_or, ne_eq, Classical.not_not] at hn
    exact ⟨hn.1, hn.2, h⟩
theorem restH_of {io : Addr → Prop} {a : Addr} (h1 : F a = none) (h2 : ¬ io a) : restH F H io a = H a := by
  unfold restH
  rw [if_neg]
  simp only [not_or, ne_eq, Classical.not_not]
  exact ⟨h1, h2⟩
theorem restH_none {io : Addr → Prop} {a : Addr} (h : F a ≠ none ∨ io a) : restH F H io a = none := by
  unfold restH
  rw [if_pos h]

theorem getE_cons_zero (e : Ent) (es : Env) : getE (e :: es) 0 = e := rfl
theorem getE_cons_succ (e : Ent) (es : Env) (i : Nat) : getE (e :: es) (i + 1) = getE es i := by simp [getE, List.getD]
theorem getE_nil (i : Nat) : getE [] i = .no := by simp [getE, List.getD]
theorem getE_set_same {env : Env} {i : Nat} {e : Ent} (h : i < env.length) : getE (env.set i e) i = e := by
  simp [getE, List.getD, List.getElem?_set_self h]
theorem getE_set_ne {env : Env} {i j : Nat} {e : Ent} (h : i ≠ j) : getE (env.set i e) j = getE env j := by
  simp [getE, List.getD, List.getElem?_set_ne h]
theorem getE_len {env : Env} {i : Nat} (h : ∃ d, getE env i = .ow d) : i < env.length := by
  obtain ⟨d, h⟩ := h
  by_cases hl : i < env.length
  · exact hl
  · have : getE env i = .no := by
      unfold getE List.getD
      rw [List.getElem?_eq_none (by omega)]; rfl
    rw [this] at h; cases h

/-- the entries that a callee gets, with the values that stand for them -/
theorem ents_ok (S : M.St env σ F G H) (io : Addr → Prop) (hio : ∀ i a, Owns env σ i a → io a → True) :
    ∀ {ds : List D} {vs : List V} {as : Env}, Paired (M.RV F σ) vs ds → ds.mapM (entOf env) = some as → (∀ i a, .own i ∈ ds → σ[i]? = some (some (V.ref a)) → io a) → (∀ a, io a → G a = none) →
    vs.length = as.length ∧ ∀ i, EntOk M.cl M.K F (restH F H io) H (vs.map some)[i]? (getE as i)
  | [], _, as, .nil, h, _, _ => by
    simp at h; subst h
    exact ⟨rfl, fun i => by rw [getE_nil]; trivial⟩
  | d :: ds, v :: vs, as, .cons r rs, h, hi, hg => by
    simp only [List.mapM_cons, Option.pure_def, Option.bind_eq_bind, Option.bind_eq_some_iff] at h
    obtain ⟨en, h1, as', h2, h3⟩ := h
    simp only [Option.some.injEq] at h3
    subst h3
    obtain ⟨l, q⟩ := ents_ok S io hio rs h2 (fun i a hm => hi i a (List.mem_cons_of_mem _ hm)) hg
    refine ⟨by simp [l], fun i => ?_⟩
    cases i with
    | succ i =>
      rw [getE_cons_succ]
      exact q i
    | zero =>
      rw [getE_cons_zero]
      show EntOk M.cl M.K F (restH F H io) H (some (some v)) en
      cases d with
      | own j =>
        simp only [entOf] at h1
        split at h1
        · rename_i d' e
          cases h1
          have s := S.ent j
          rw [e] at s
          obtain ⟨a, ea, fa, ga, oa⟩ := s
          have r : σ[j]? = some (some v) := r
          rw [r] at ea
          cases ea
          exact ⟨a, rfl, fa, restH_none (.inr (hi j a List.mem_cons_self r)), oa⟩
        · cases h1
      | _ =>
        simp only [entOf, Option.some.injEq] at h1
        subst h1
        exact ⟨v, rfl, r⟩
theorem own_at : ∀ {ds : List D} {vs : List V} {as : Env} {i : Nat}, Paired (M.RV F σ) vs ds → ds.mapM (entOf env) = some as → (∃ d, getE as i = .ow d) → ∃ m d, ds[i]? = some (D.own m) ∧ getE env m = .ow d ∧ (vs.map some)[i]? = σ[m]?
  | [], _, as, i, .nil, h, ⟨d, hd⟩ => by
    simp at h; subst h
    rw [getE_nil] at hd; cases hd
  | d :: ds, v :: vs, as, i, .cons r rs, h, ⟨dd, hd⟩ => by
    simp only [List.mapM_cons, Option.pure_def, Option.bind_eq_bind, Option.bind_eq_some_iff] at h
    obtain ⟨en, h1, as', h2, h3⟩ := h
    simp only [Option.some.injEq] at h3
    subst h3
    cases i with
    | succ i =>
      rw [getE_cons_succ] at hd
      exact own_at (i := i) rs h2 ⟨dd, hd⟩
    | zero =>
      rw [getE_cons_zero] at hd
      subst hd
      cases d with
      | own j =>
        simp only [entOf] at h1
        split at h1
        · rename_i d' e
          cases h1
          exact ⟨j, dd, rfl, e, (show σ[j]? = some (some v) from r).symm⟩
        · cases h1
      | _ => simp only [entOf] at h1; cases h1
theorem own_val : ∀ {ds : List D} {vs : List V} {as : Env} {i m : Nat}, Paired (M.RV F σ) vs ds → ds.mapM (entOf env) = some as → ds[i]? = some (D.own m) → (∃ d, getE env m = .ow d) ∧ (vs.map some)[i]? = σ[m]? ∧ i < as.length
  | [], _, as, i, m, .nil, h, hd => by simp at hd
  | d :: ds, v :: vs, as, i, m, .cons r rs, h, hd => by
    simp only [List.mapM_cons, Option.pure_def, Option.bind_eq_bind, Option.bind_eq_some_iff] at h
    obtain ⟨en, h1, as', h2, h3⟩ := h
    simp only [Option.some.injEq] at h3
    subst h3
    cases i with
    | succ i =>
      simp only [List.getElem?_cons_succ] at hd
      obtain ⟨q1, q2, q3⟩ := own_val (i := i) rs h2 hd
      exact ⟨q1, q2, Nat.succ_lt_succ q3⟩
    | zero =>
      simp only [List.getElem?_cons_zero, Option.some.injEq] at hd
      subst hd
      simp only [entOf] at h1
      split at h1
      · rename_i d' e
        exact ⟨⟨d', e⟩, (show σ[m]? = some (some v) from r).symm, Nat.succ_pos _⟩
      · cases h1
theorem nodup_seen : ∀ {ds : List D} {seen : List Nat} {j m : Nat}, nodupOwn ds seen = true → m ∈ seen → ds[j]? = some (D.own m) → False
  | [], _, _, _, _, _, h => by simp at h
  | d :: ds, seen, j, m, h, hm, hj => by
    cases d with
    | own i =>
      simp only [nodupOwn, Bool.and_eq_true, Bool.not_eq_true', List.contains_eq_mem, decide_eq_false_iff_not] at h
      cases j with
      | zero =>
        simp only [List.getElem?_cons_zero, Option.some.injEq, D.own.injEq] at hj
        subst hj
        exact h.1 hm
      | succ j => exact nodup_seen (j := j) h.2 (List.mem_cons_of_mem _ hm) (by simpa using hj)
    | _ =>
      cases j with
      | zero => simp at hj
      | succ j =>
        simp only [nodupOwn] at h
        exact nodup_seen (j := j) h hm (by simpa using hj)
theorem nodup_own : ∀ {ds : List D} {seen : List Nat} {i j m : Nat}, nodupOwn ds seen = true → ds[i]? = some (D.own m) → ds[j]? = some (D.own m) → i = j
  | [], _, _, _, _, _, h, _ => by simp at h
  | d :: ds, seen, i, j, m, h, hi, hj => by
    cases i with
    | zero =>
      cases j with
      | zero => rfl
      | succ j =>
        simp only [List.getElem?_cons_zero, Option.some.injEq] at hi
        subst hi
        simp only [nodupOwn, Bool.and_eq_true] at h
        exact (nodup_seen (j := j) h.2 List.mem_cons_self (by simpa using hj)).elim
    | succ i =>
      cases j with
      | zero =>
        simp only [List.getElem?_cons_zero, Option.some.injEq] at hj
        subst hj
        simp only [nodupOwn, Bool.and_eq_true] at h
        exact (nodup_seen (j := i) h.2 List.mem_cons_self (by simpa using hi)).elim
      | succ j =>
        have h' : ∃ seen', nodupOwn ds seen' = true := by
          cases d with
          | own q => simp only [nodupOwn, Bool.and_eq_true] at h; exact ⟨_, h.2⟩
          | _ => simp only [nodupOwn] at h; exact ⟨_, h⟩
        obtain ⟨seen', h'⟩ := h'
        rw [nodup_own (i := i) (j := j) h' (by simpa using hi) (by simpa using hj)]
theorem putBack_len : ∀ (ds : List D) (outs env : Env), (putBack ds outs env).length = env.length
  | [], _, _ => by simp [putBack]
  | d :: ds, [], env => by cases d <;> simp [putBack]
  | d :: ds, e :: es, env => by
    cases d with
    | own i => simp only [putBack]; rw [putBack_len ds es]; simp
    | _ => simp only [putBack]; exact putBack_len ds es env
theorem putBack_out : ∀ {ds : List D} {outs env : Env} {m : Nat}, (∀ (i : Nat), ds[i]? ≠ some (D.own m)) → getE (putBack ds outs env) m = getE env m
  | [], _, _, _, _ => by simp [putBack]
  | d :: ds, [], env, m, h => by cases d <;> simp [putBack]
  | d :: ds, e :: es, env, m, h => by
    have h' : ∀ (i : Nat), ds[i]? ≠ some (D.own m) := fun i => by simpa using h (i + 1)
    cases d with
    | own i =>
      simp only [putBack]
      rw [putBack_out h', getE_set_ne]
      rintro rfl
      exact h 0 rfl
    | _ => simp only [putBack]; exact putBack_out h'
theorem putBack_in : ∀ {ds : List D} {outs env : Env} {seen : List Nat} {i m : Nat}, nodupOwn ds seen = true → ds[i]? = some (D.own m) → i < outs.length → m < env.length → getE (putBack ds outs env) m = getE outs i
  | [], _, _, _, _, _, _, h, _, _ => by simp at h
  | d :: ds, [], env, _, i, m, _, _, h, _ => by simp at h
  | d :: ds, e :: es, env, seen, i, m, hn, hi, hl, hm => by
    cases i with
    | zero =>
      simp only [List.getElem?_cons_zero, Option.some.injEq] at hi
      subst hi
      simp only [nodupOwn, Bool.and_eq_true] at hn
      simp only [putBack]
      rw [putBack_out fun j hj => nodup_seen (j := j) hn.2 List.mem_cons_self hj, getE_set_same hm, getE_cons_zero]
    | succ i =>
      rw [getE_cons_succ]
      cases d with
      | own q =>
        simp only [nodupOwn, Bool.and_eq_true] at hn
        simp only [putBack]
        exact putBack_in (i := i) hn.2 (by simpa using hi) (by simpa using hl) (by simpa using hm)
      | _ =>
        simp only [nodupOwn] at hn
        simp only [putBack]
        exact putBack_in (i := i) hn (by simpa using hi) (by simpa using hl) hm

/-- what a call needs, and what it leaves -/
theorem call_ok (S : M.St env σ F G H) {ds : List D} {vs : List V} {as : Env} (rs : Paired (M.RV F σ) vs ds) (hn : nodupOwn ds [] = true) (ha : ds.mapM (entOf env) = some as) :
    ∃ G', M.St as (vs.map some) F G' H ∧ as.length = vs.length ∧ (∀ H', Same G' H' → Same G H') ∧
      ∀ outs F' H', outs.length = as.length → Ex F F' → M.St outs (vs.map some) F' G' H' → M.St (putBack ds outs env) σ F' G H' ∧
        ∀ a, F' a = none → G' a = none → (∀ i, ¬ Owns outs (vs.map some) i a) → G a = none ∧ ∀ m, ¬ Owns (putBack ds outs env) σ m a := by
  let io : Addr → Prop := fun a => ∃ (i m : Nat), ds[i]? = some (D.own m) ∧ σ[m]? = some (some (V.ref a))
  have iog : ∀ a, io a → G a = none := fun a ⟨i, m, h1, h2⟩ => by
    obtain ⟨⟨d, e⟩, _, _⟩ := own_val rs ha h1
    have q := S.ent m
    rw [e] at q
    obtain ⟨b, eb, _, gb, _⟩ := q
    rw [h2] at eb
    cases eb
    exact gb
  obtain ⟨hlen, hent⟩ := ents_ok S io (fun _ _ _ _ => trivial) rs ha (fun i a hm he => by
    obtain ⟨j, hj, e⟩ := List.getElem_of_mem hm
    exact ⟨j, i, by rw [List.getElem?_eq_getElem hj, e], he⟩) iog
  have gsub : ∀ a o, G a = some o → restH F H io a = some o := fun a o h => by
    rw [restH_of, S.gh _ _ h]
    · cases q : F a with
      | none => rfl
      | some u => have := S.fg a (by rw [q]; simp); rw [h] at this; cases this
    · intro z
      rw [iog a z] at h; cases h
  refine ⟨restH F H io, ⟨S.fh, fun a o h => (restH_some h).2.2, fun a h => restH_none (.inl h), by simp [hlen], hent, fun i j a hij h1 h2 => ?_⟩, hlen.symm, fun H' h a o q => h a o (gsub a o q), fun outs F' H' hol x S' => ?_⟩
  · obtain ⟨m, d, q1, q2, q3⟩ := own_at rs ha h1.1
    obtain ⟨m', d', q1', q2', q3'⟩ := own_at rs ha h2.1
    have hmm : m ≠ m' := fun z => by
      subst z
      exact hij (nodup_own hn q1 q1')
    exact S.sep m m' a hmm ⟨⟨d, q2⟩, q3 ▸ h1.2⟩ ⟨⟨d', q2'⟩, q3' ▸ h2.2⟩
  · have gnone : ∀ a, restH F H io a = none → G a = none := fun a h => by
      cases q : G a with
      | none => rfl
      | some o => rw [gsub a o q] at h; cases h
    -- an owned name that was not handed on
    have left : ∀ (m : Nat) (d : D) (a : Addr), getE env m = .ow d → σ[m]? = some (some (V.ref a)) → (∀ (i : Nat), ds[i]? ≠ some (D.own m)) → restH F H io a = H a := fun m d a e ea ho => by
      have q := S.ent m
      rw [e] at q
      obtain ⟨b, eb, fb, _, _⟩ := q
      rw [ea] at eb
      cases eb
      refine restH_of fb fun ⟨i, m', h1, h2⟩ => ?_
      obtain ⟨hd', _, _⟩ := own_val rs ha h1
      exact S.sep m m' a (fun z => by subst z; exact ho i h1) ⟨⟨d, e⟩, ea⟩ ⟨hd', h2⟩
    have there : ∀ (m : Nat) (d : D) (a : Addr), getE env m = .ow d → σ[m]? = some (some (V.ref a)) → H a ≠ none := fun m d a e ea => by
      have q := S.ent m
      rw [e] at q
      obtain ⟨b, eb, _, _, ob⟩ := q
      rw [ea] at eb
      cases eb
      exact ob.there
    have inE : ∀ {i m : Nat}, ds[i]? = some (D.own m) → getE (putBack ds outs env) m = getE outs i ∧ (vs.map some)[i]? = σ[m]? ∧ ∃ d, getE env m = .ow d := fun {i m} h => by
      obtain ⟨hd, h1, h2⟩ := own_val rs ha h
      exact ⟨putBack_in hn h (by omega) (getE_len hd), h1, hd⟩
    refine ⟨⟨S'.fh, fun a o h => S'.gh _ _ (gsub a o h), fun a h => gnone a (S'.fg a h), by rw [putBack_len]; exact S.len, fun m => ?_, fun m n a hmn h1 h2 => ?_⟩, fun a fa ga no => ⟨gnone a ga, fun m hm => ?_⟩⟩
    · by_cases hex : ∃ (i : Nat), ds[i]? = some (D.own m)
      · obtain ⟨i, hi⟩ := hex
        obtain ⟨e1, e2, d, e3⟩ := inE hi
        rw [e1, ← e2]
        have q := S'.ent i
        cases e : getE outs i with
        | no => trivial
        | fz d' => rw [e] at q; exact q
        | ow d' =>
          rw [e] at q
          obtain ⟨a, q1, q2, q3, q4⟩ := q
          exact ⟨a, q1, q2, gnone a q3, q4⟩
      · have ho : ∀ (i : Nat), ds[i]? ≠ some (D.own m) := fun i hi => hex ⟨i, hi⟩
        rw [putBack_out ho]
        have q := S.ent m
        cases e : getE env m with
        | no => trivial
        | fz d' => rw [e] at q; obtain ⟨v, q1, q2⟩ := q; exact ⟨v, q1, q2.mono x⟩
        | ow d' =>
          rw [e] at q
          obtain ⟨a, q1, q2, q3, q4⟩ := q
          have hl := left m d' a e q1 ho
          obtain ⟨o, hoo⟩ : ∃ o, H a = some o := by
            cases z : H a with
            | none => exact absurd z q4.there
            | some o => exact ⟨o, rfl⟩
          have hH' : H' a = H a := by rw [hoo]; exact S'.gh _ _ (hl.trans hoo)
          refine ⟨a, q1, ?_, q3, (q4.mono x).at hH'⟩
          cases z : F' a with
          | none => rfl
          | some u => have := S'.fg a (by rw [z]; simp); rw [hl, hoo] at this; cases this
    · by_cases hm : ∃ (i : Nat), ds[i]? = some (D.own m)
      · obtain ⟨i, hi⟩ := hm
        obtain ⟨e1, e2, dm, e3⟩ := inE hi
        by_cases hn' : ∃ (j : Nat), ds[j]? = some (D.own n)
        · obtain ⟨j, hj⟩ := hn'
          obtain ⟨f1, f2, dn, f3⟩ := inE hj
          refine S'.sep i j a (fun z => ?_) ⟨by rw [← e1]; exact h1.1, e2 ▸ h1.2⟩ ⟨by rw [← f1]; exact h2.1, f2 ▸ h2.2⟩
          subst z
          rw [hi] at hj
          cases hj
          exact hmn rfl
        · rw [Owns, putBack_out fun j hj => hn' ⟨j, hj⟩] at h2
          exact S.sep m n a hmn ⟨⟨dm, e3⟩, h1.2⟩ h2
      · rw [Owns, putBack_out fun j hj => hm ⟨j, hj⟩] at h1
        by_cases hn' : ∃ (j : Nat), ds[j]? = some (D.own n)
        · obtain ⟨j, hj⟩ := hn'
          obtain ⟨f1, f2, dn, f3⟩ := inE hj
          exact S.sep m n a hmn h1 ⟨⟨dn, f3⟩, h2.2⟩
        · rw [Owns, putBack_out fun j hj => hn' ⟨j, hj⟩] at h2
          exact S.sep m n a hmn h1 h2
    · by_cases hex : ∃ (i : Nat), ds[i]? = some (D.own m)
      · obtain ⟨i, hi⟩ := hex
        obtain ⟨e1, e2, d, e3⟩ := inE hi
        exact no i ⟨by rw [← e1]; exact hm.1, e2 ▸ hm.2⟩
      · have ho : ∀ (i : Nat), ds[i]? ≠ some (D.own m) := fun i hi => hex ⟨i, hi⟩
        rw [Owns, putBack_out ho] at hm
        obtain ⟨⟨d, e⟩, ea⟩ := hm
        exact there m d a e ea ((left m d a e ea ho).symm.trans ga)
theorem mapM_some {α β : Type} {f : α → Option β} : ∀ {l : List α} {r : List β}, l.mapM f = some r → r.length = l.length ∧ ∀ (i : Nat) (x : α), l[i]? = some x → ∃ y, f x = some y ∧ r[i]? = some y
  | [], r, h => by simp at h; subst h; exact ⟨rfl, fun i x e => by simp at e⟩
  | a :: l, r, h => by
    simp only [List.mapM_cons, Option.pure_def, Option.bind_eq_bind, Option.bind_eq_some_iff] at h
    obtain ⟨y, h1, r', h2, h3⟩ := h
    simp only [Option.some.injEq] at h3
    subst h3
    obtain ⟨q1, q2⟩ := mapM_some h2
    refine ⟨by simp [q1], fun i x e => ?_⟩
    cases i with
    | zero => simp at e; subst e; exact ⟨y, h1, rfl⟩
    | succ i => simp at e; simpa using q2 i x e
theorem arr_nil {α : Type} {np : Nat} {pos kv ds : List α} (h : arr np pos [] kv = some ds) : ds = pos ∧ pos.length = np := by
  unfold arr at h
  split at h
  · rename_i hl
    obtain ⟨q1, q2⟩ := mapM_some h
    rw [List.length_range] at q1
    have hn : pos.length = np := by
      by_cases hlt : pos.length < np
      · obtain ⟨y, e, _⟩ := q2 pos.length pos.length (by simp [hlt])
        simp only [Nat.lt_irrefl, if_false, List.zip_nil_left, List.lookup_nil] at e
        cases e
      · omega
    refine ⟨List.ext_getElem? fun i => ?_, hn⟩
    by_cases hi : i < np
    · obtain ⟨y, e, e2⟩ := q2 i i (by simp [hi])
      rw [if_pos (by omega)] at e
      rw [e2, e]
    · rw [List.getElem?_eq_none (by omega), List.getElem?_eq_none (by omega)]
  · cases h
theorem paired_get {α β : Type} {R : α → β → Prop} : ∀ {xs : List α} {ys : List β} {i : Nat} {y : β}, Paired R xs ys → ys[i]? = some y → ∃ x, xs[i]? = some x ∧ R x y
  | _, _, _, _, .nil, h => by simp at h
  | _, _, 0, _, .cons r rs, h => by simp at h; subst h; exact ⟨_, rfl, r⟩
  | _, _, i + 1, _, .cons r rs, h => by simp at h; simpa using paired_get rs h
theorem paired_getL {α β : Type} {R : α → β → Prop} : ∀ {xs : List α} {ys : List β} {i : Nat} {x : α}, Paired R xs ys → xs[i]? = some x → ∃ y, ys[i]? = some y ∧ R x y
  | _, _, _, _, .nil, h => by simp at h
  | _, _, 0, _, .cons r rs, h => by simp at h; subst h; exact ⟨_, rfl, r⟩
  | _, _, i + 1, _, .cons r rs, h => by simp at h; simpa using paired_getL rs h
theorem paired_lookup {α β : Type} {R : α → β → Prop} {q : Nat} : ∀ {ks : List Nat} {xs : List α} {ys : List β} {y : β}, Paired R xs ys → (ks.zip ys).lookup q = some y → ∃ x, (ks.zip xs).lookup q = some x ∧ R x y
  | [], _, _, _, _, h => by simp at h
  | _ :: _, _, _, _, .nil, h => by simp at h
  | k :: ks, _, _, y, .cons r rs, h => by
    simp only [List.zip_cons_cons, List.lookup_cons] at h ⊢
    split at h
    · cases h; exact ⟨_, rfl, r⟩
    · exact paired_lookup rs h
theorem paired_lookupL {α β : Type} {R : α → β → Prop} {q : Nat} : ∀ {ks : List Nat} {xs : List α} {ys : List β} {x : α}, Paired R xs ys → (ks.zip xs).lookup q = some x → ∃ y, (ks.zip ys).lookup q = some y ∧ R x y
  | [], _, _, _, _, h => by simp at h
  | _ :: _, _, _, _, .nil, h => by simp at h
  | k :: ks, _, _, y, .cons r rs, h => by
    simp only [List.zip_cons_cons, List.lookup_cons] at h ⊢
    split at h
    · cases h; exact ⟨_, rfl, r⟩
    · exact paired_lookupL rs h
theorem mapM_paired {γ α β : Type} {R : α → β → Prop} {f : γ → Option α} {g : γ → Option β} (h : ∀ q y, g q = some y → ∃ x, f q = some x ∧ R x y) : ∀ {l : List γ} {ys : List β}, l.mapM g = some ys → ∃ xs, l.mapM f = some xs ∧ Paired R xs ys
  | [], ys, e => by simp at e; subst e; exact ⟨[], rfl, .nil⟩
  | q :: l, ys, e => by
    simp only [List.mapM_cons, Option.pure_def, Option.bind_eq_bind, Option.bind_eq_some_iff] at e
    obtain ⟨y, h1, ys', h2, h3⟩ := e
    cases h3
    obtain ⟨x, e1, r1⟩ := h q y h1
    obtain ⟨xs, e2, r2⟩ := mapM_paired h h2
    exact ⟨x :: xs, by simp [List.mapM_cons, e1, e2], .cons r1 r2⟩
theorem mapM_pairedL {γ α β : Type} {R : α → β → Prop} {f : γ → Option α} {g : γ → Option β} (h : ∀ q x, f q = some x → ∃ y, g q = some y ∧ R x y) : ∀ {l : List γ} {xs : List α}, l.mapM f = some xs → ∃ ys, l.mapM g = some ys ∧ Paired R xs ys
  | [], ys, e => by simp at e; subst e; exact ⟨[], rfl, .nil⟩
  | q :: l, ys, e => by
    simp only [List.mapM_cons, Option.pure_def, Option.bind_eq_bind, Option.bind_eq_some_iff] at e
    obtain ⟨y, h1, ys', h2, h3⟩ := e
    cases h3
    obtain ⟨x, e1, r1⟩ := h q y h1
    obtain ⟨xs, e2, r2⟩ := mapM_pairedL h h2
    exact ⟨x :: xs, by simp [List.mapM_cons, e1, e2], .cons r1 r2⟩
theorem arr_rel {α β : Type} {R : α → β → Prop} {np : Nat} {ks : List Nat} {vs zs : List α} {us ws rs : List β} (h1 : Paired R vs us) (h2 : Paired R zs ws) (h : arr np us ks ws = some rs) : ∃ xs, arr np vs ks zs = some xs ∧ Paired R xs rs := by
  unfold arr at h ⊢
  have hl : vs.length = us.length := h1.length
  rw [hl]
  split at h
  · rename_i hc
    rw [if_pos hc]
    refine mapM_paired (fun q y e => ?_) h
    split at e
    · rename_i hq
      rw [if_pos hq]; exact paired_get h1 e
    · rename_i hq
      rw [if_neg hq]; exact paired_lookup h2 e
  · cases h
theorem arr_relL {α β : Type} {R : α → β → Prop} {np : Nat} {ks : List Nat} {vs zs xs : List α} {us ws : List β} (h1 : Paired R vs us) (h2 : Paired R zs ws) (h : arr np vs ks zs = some xs) : ∃ rs, arr np us ks ws = some rs ∧ Paired R xs rs := by
  unfold arr at h ⊢
  have hl : vs.length = us.length := h1.length
  rw [hl] at h
  split at h
  · rename_i hc
    rw [if_pos hc]
    refine mapM_pairedL (fun q y e => ?_) h
    split at e
    · rename_i hq
      rw [if_pos hq]; exact paired_getL h1 e
    · rename_i hq
      rw [if_neg hq]; exact paired_lookupL h2 e
  · cases h
theorem arr_len {α : Type} {np : Nat} {ks : List Nat} {vs zs xs : List α} (h : arr np vs ks zs = some xs) : xs.length = np := by
  unfold arr at h
  split at h
  · rw [(mapM_some h).1, List.length_range]
  · cases h
theorem ownAt_obj {a : Addr} {d : D} (h : OwnAt M.cl M.K F H a d) : isObj d = true := by
  cases d <;> first | rfl | exact h.elim
theorem all_notStar_pl {es : List Expr} (h : es.all notStar = true) (env : PySem.Env) : (backTo pos (starEach es env)).any (·.1) = false := by
  induction es with
  | nil => rfl
  | cons e es ih =>
    simp only [List.all_cons, Bool.and_eq_true] at h
    rw [starEach_cons h.1]
    show (false || (backTo pos (starEach es env)).any (·.1)) = false
    rw [ih h.2]; rfl
theorem evE_call {f : Nat} {ies : List IE} (env : Env) {Fn : IFun} (hf : M.T.fn f = some Fn) : evE M.T (callF M.T k) lk (.call f ies []) env = ((evEs M.T (callF M.T k) lk ies env).bind fun p => (R.of (arr Fn.np p.1 [] [])).bind fun ds =>
      if nodupOwn ds [] then (R.of (ds.mapM (entOf p.2))).bind fun as => callR ds p.2 (callF M.T k f as) else .no) := by
  rw [evE]
  simp only [hf, R.of_some, R.bind_ok, List.length_nil, Nat.sub_zero, List.take_length, List.drop_length]
/-- the call of a def, its arguments by place -/
theorem pe_fn (fo : FnsOk M k) (g : Good M k p W X) {f : Nat} {Fn : IFun} (hf : M.T.fn f = some Fn) {es : List Expr} {pf : Pos} (hg : glb p (M.fnm f) = true) (hne : es ≠ []) (hs : es.all notStar = true) : ∃ t, PE X (.Call (.Name (M.fnm f) pf) es [] pos) t ∧ ∀ σ H Q, sA X es σ H (fun vs H1 => spF M k f vs H1 Q (WE W σ)) → t σ H Q := by
  obtain ⟨fa, fd, A⟩ := fo f Fn hf
  have ok : FnOk X.prog X.w X.K X.mg X.base (L2.CX X.prog X.w) k fa fd (M.pnm f) (spF M k f) := by rw [g.prog, g.w, g.K, g.mg, g.base]; exact A.ok
  have hm : X.mg (M.fnm f) = some (.ref fa) := by rw [g.mg]; exact A.mg
  have hk : PySem.W.keepIn X.K (.ref fa) = true := by rw [g.K]; exact A.kp
  have hb : Binds X.K fd (M.pnm f) [] := by rw [g.K]; exact A.bd
  cases es with
  | nil => exact absurd rfl hne
  | cons e es =>
    simp only [List.all_cons, Bool.and_eq_true] at hs
    refine ⟨_, pe_callSD ok g.room (gl_of g hg) hm hk hb .nil (fun σ => passAt g.takes σ) (paS X (e :: es)) A.dbg (starEach_cons hs.1 es X.env) (all_notStar_pl hs.2 X.env), fun σ H Q h => ?_⟩
    show sA X (e :: es) σ H fun vs H1 => spF M k f (vs ++ []) H1 Q (WE W σ)
    simp only [List.append_nil]
    exact h
theorem getE_repl (n i : Nat) : getE (List.replicate n .no) i = .no := by
  unfold getE List.getD
  by_cases h : i < n
  · rw [List.getElem?_replicate_of_lt h]; rfl
  · rw [List.getElem?_eq_none (by simp; omega)]; rfl
theorem putBack_no : ∀ {ds : List D} {es env : Env}, ds.any isOwn = false → putBack ds es env = env
  | [], es, env, _ => by cases es <;> rfl
  | d :: ds, [], env, _ => by cases d <;> rfl
  | d :: ds, e :: es, env, h => by
    simp only [List.any_cons, Bool.or_eq_false_iff] at h
    have ih := putBack_no (es := es) (env := env) h.2
    cases d <;> first | exact ih | cases h.1
theorem call_post {f : Nat} {Fn : IFun} (hf : M.T.fn f = some Fn) {Q : VK} {P : D → Env → Hp → Hp → Prop} {ds : List D} {vs : List V} {H1 : Hp} (S : M.St env σ F G H1) (rs : Paired (M.RV F σ) vs ds)
    (hl : ds.length = Fn.np) (hp1 : Post M W σ F G P (if nodupOwn ds [] then (R.of (ds.mapM (entOf env))).bind fun as => callR ds env (callF M.T k f as) else .no))
    (hP : ∀ d env' F' H', M.St env' σ F' G H' → P d env' F' H' → if Fn.fresh then ∀ a, F' a = none → G a = none → (∀ i, ¬ Owns env' σ i a) → OwnAt M.cl M.K F' H' a d → Q (.ref a) H' else ∀ v, M.Rep F' v d → Q v H') : spF M k f vs H1 Q (WE W σ) := by
  by_cases hn : nodupOwn ds [] = true
  · rw [if_pos hn] at hp1
    obtain ⟨as, ha, hp2⟩ := hp1.of
    obtain ⟨G', S', hal, hg', aft⟩ := call_ok S rs hn ha
    have hvl : vs.length = ds.length := Paired.length rs
    refine ⟨Fn, as, F, G', hf, by omega, S', ?_⟩
    cases hc : callF M.T k f as with
    | no => rw [hc] at hp2; exact hp2
    | ex c fs e =>
      rw [hc] at hp2
      intro cls dd F' H' x S2 xo
      unfold callR at hp2
      obtain ⟨hno, hp3⟩ := hp2.ite
      have hol : (List.replicate as.length Ent.no).length = as.length := List.length_replicate
      have S4 : M.St (List.replicate as.length Ent.no) (vs.map some) F' G' H' := by
        refine ⟨S2.fh, S2.gh, S2.fg, by simp [hal], fun i => ?_, fun i j b hij h1 _ => ?_⟩
        · rw [getE_repl]; trivial
        · obtain ⟨⟨d, e⟩, _⟩ := h1
          rw [getE_repl] at e; cases e
      obtain ⟨S3, _⟩ := aft _ F' H' hol x S4
      rw [putBack_no hno] at S3
      exact hp3 cls dd F' H' x S3 xo
    | ok r =>
      rw [hc] at hp2
      intro F' H' x S2
      have hol : r.2.length = as.length := by rw [S2.len, List.length_map, hal]
      obtain ⟨S3, own⟩ := aft r.2 F' H' hol x S2
      have q := hP r.1 _ F' H' S3 (hp2 F' H' x S3)
      unfold PR
      split at q
      · rename_i hfr
        rw [if_pos hfr]
        intro a fa ga no oa
        obtain ⟨ga', no'⟩ := own a fa ga no
        exact q a fa ga' no' oa
      · rename_i hfr
        rw [if_neg hfr]
        exact q
  · rw [if_neg hn] at hp1
    exact hp1.elim
theorem sE_call (fo : FnsOk M k) {f : Nat} {Fn : IFun} (hf : M.T.fn f = some Fn) (hfr : Fn.fresh = false) {es : List Expr} {ies : List IE} {pf : Pos} (hg : glb p (M.fnm f) = true) (hne : es ≠ []) (hs : es.all notStar = true) (hr : SA M k p lk es ies) : SE M k p lk (.Call (.Name (M.fnm f) pf) es [] pos) (.call f ies []) := by
  intro X W g env σ F G H Q S hp
  obtain ⟨t, pe, ht⟩ := pe_fn fo g hf hg hne hs
  refine sE_of pe (ht σ H Q (hr X W g env σ F G H _ S ?_))
  rw [evE_call env hf] at hp
  refine hp.bind fun ds0 env1 F1 H1 e1 x1 S1 hp0 vs rs => ?_
  obtain ⟨ds, hb, hp1⟩ := hp0.of
  obtain ⟨rfl, hl⟩ := arr_nil hb
  refine call_post hf S1 rs hl hp1 fun d env' F' H' S' q => ?_
  rw [hfr]
  intro v rv
  refine q v ?_
  cases d with
  | own i => cases rv
  | _ => exact rv
theorem sN_call (fo : FnsOk M k) {f : Nat} {Fn : IFun} (hf : M.T.fn f = some Fn) (hfr : Fn.fresh = true) {es : List Expr} {ies : List IE} {pf : Pos} (hg : glb p (M.fnm f) = true) (hne : es ≠ []) (hs : es.all notStar = true) (hr : SA M k p lk es ies) : SN M k p lk (.Call (.Name (M.fnm f) pf) es [] pos) (.call f ies []) := by
  intro X W g env σ F G H Q S hp
  obtain ⟨t, pe, ht⟩ := pe_fn fo g hf hg hne hs
  refine sE_of pe (ht σ H Q (hr X W g env σ F G H _ S ?_))
  rw [evE_call env hf] at hp
  refine hp.bind fun ds0 env1 F1 H1 e1 x1 S1 hp0 vs rs => ?_
  obtain ⟨ds, hb, hp1⟩ := hp0.of
  obtain ⟨rfl, hl⟩ := arr_nil hb
  refine call_post hf S1 rs hl hp1 fun d env' F' H' S' q => ?_
  rw [hfr]
  exact fun a fa ga no oa => q.2 (ownAt_obj oa) a fa ga no oa
theorem pe_fn0 (fo : FnsOk M k) (g : Good M k p W X) {f : Nat} {Fn : IFun} (hf : M.T.fn f = some Fn) {pf : Pos} (hg : glb p (M.fnm f) = true) : PE X (.Call (.Name (M.fnm f) pf) [] [] pos) (fun σ H Q => spF M k f [] H Q (WE W σ)) := by
  obtain ⟨fa, fd, A⟩ := fo f Fn hf
  have ok : FnOk X.prog X.w X.K X.mg X.base (L2.CX X.prog X.w) k fa fd (M.pnm f) (spF M k f) := by rw [g.prog, g.w, g.K, g.mg, g.base]; exact A.ok
  have hm : X.mg (M.fnm f) = some (.ref fa) := by rw [g.mg]; exact A.mg
  have hk : PySem.W.keepIn X.K (.ref fa) = true := by rw [g.K]; exact A.kp
  have hb : Binds X.K fd (M.pnm f) [] := by rw [g.K]; exact A.bd
  exact pe_callS0 ok g.room (gl_of g hg) hm hk hb (fun σ => passAt g.takes σ) A.dbg
theorem sE_call0 (fo : FnsOk M k) {f : Nat} {Fn : IFun} (hf : M.T.fn f = some Fn) (hfr : Fn.fresh = false) {pf : Pos} (hg : glb p (M.fnm f) = true) : SE M k p lk (.Call (.Name (M.fnm f) pf) [] [] pos) (.call f [] []) := by
  intro X W g env σ F G H Q S hp
  refine sE_of (pe_fn0 fo g hf hg) ?_
  rw [evE_call env hf] at hp
  simp only [evEs, R.bind_ok] at hp
  obtain ⟨ds, hb, hp1⟩ := hp.of
  obtain ⟨rfl, hl⟩ := arr_nil hb
  refine call_post hf S .nil hl hp1 fun d env' F' H' S' q => ?_
  rw [hfr]
  intro v rv
  refine q v ?_
  cases d with
  | own i => cases rv
  | _ => exact rv
theorem sN_call0 (fo : FnsOk M k) {f : Nat} {Fn : IFun} (hf : M.T.fn f = some Fn) (hfr : Fn.fresh = true) {pf : Pos} (hg : glb p (M.fnm f) = true) : SN M k p lk (.Call (.Name (M.fnm f) pf) [] [] pos) (.call f [] []) := by
  intro X W g env σ F G H Q S hp
  refine sE_of (pe_fn0 fo g hf hg) ?_
  rw [evE_call env hf] at hp
  simp only [evEs, R.bind_ok] at hp
  obtain ⟨ds, hb, hp1⟩ := hp.of
  obtain ⟨rfl, hl⟩ := arr_nil hb
  refine call_post hf S .nil hl hp1 fun d env' F' H' S' q => ?_
  rw [hfr]
  exact fun a fa ga no oa => q.2 (ownAt_obj oa) a fa ga no oa

/-! ### calls with keywords -/
theorem run_fnA {CX : CXT} {f : Addr} {fd : FuncData} {ps kn : List Str} {sp : Sp} {E : XK} {pins : List (Addr × Obj)} {s : Shared} {Q : VK} {us ws uz : List Value} {vz : List V} (Fk : FnOk X.prog X.w X.K X.mg X.base CX k f fd ps sp) (hr : Room k X.A) (hx : PassesAt CX X σ E)
    (I : Inv X pins σ H s) (hb : BindsTo s fd ⟨us, kn.zip ws⟩ (ps.zip uz)) (ru : Vals vz uz) (h : sp vz H Q E) : wpAny (model X.prog X.w) X.A (call (.ref f) us (kn.zip ws)) (EP X pins σ Q) X.xe s := by
  refine wpAny_call (codeAny_mono (Fk.run X.A X.stack s H ⟨us, kn.zip ws⟩ uz vz Q E hr I.env0 hb ru h) fun r s' hq => ?_)
  cases r with
  | error e => exact hx pins H s e s' I hq
  | ok fl =>
    cases fl with
    | ret u => exact I.after hq
    | next => exact False.elim hq
    | brk => exact False.elim hq
    | cont => exact False.elim hq
def tKs (X : Cx) : List Expr → TA
  | [] => tNil
  | e :: es => tCons (sE X e) (tKs X es)
def mkKw : List (Str × Expr × Pos) → List Keyword
  | [] => []
  | (n, e, p) :: r => ⟨some n, e, p⟩ :: mkKw r
theorem pk_ks (X : Cx) : ∀ kws : List (Str × Expr × Pos), PK X (mkKw kws) (tKs X (kws.map (·.2.1)))
  | [] => pk_nil
  | (n, e, p) :: r => pk_cons (peS X e) (pk_ks X r)
theorem kw_all (kws : List (Str × Expr × Pos)) (env : PySem.Env) : (backToKw pos (keywordEach (mkKw kws) env)).all (·.1.isSome) = true := by
  induction kws with
  | nil => rfl
  | cons q r ih => exact ih
theorem kw_none (kws : List (Str × Expr × Pos)) (env : PySem.Env) : (backToKw pos (keywordEach (mkKw kws) env)).any (·.1.isNone) = false := by
  induction kws with
  | nil => rfl
  | cons q r ih => exact ih
theorem kw_names (kws : List (Str × Expr × Pos)) (env : PySem.Env) : (backToKw pos (keywordEach (mkKw kws) env)).filterMap (·.1) = kws.map (·.1) := by
  induction kws with
  | nil => rfl
  | cons q r ih => exact congrArg (q.1 :: ·) ih
/-- what a call with keywords is read as -/
def tPos (X : Cx) : List Expr → TA
  | [] => tNil
  | e :: es => sA X (e :: es)
def tCallA (n m np : Nat) (ks : List Nat) (sp : Sp) (E : L2.St → XK) (t tk : TA) : TE := fun σ H Q => t σ H fun vs H1 => tk σ H1 fun zs H2 => vs.length = n ∧ zs.length = m ∧ ∃ vz, arr np vs ks zs = some vz ∧ sp vz H2 Q (E σ)
theorem pe_fnK (fo : FnsOk M k) (g : Good M k p W X) {f : Nat} {Fn : IFun} (hf : M.T.fn f = some Fn) {es : List Expr} {kws : List (Str × Expr × Pos)} {n : Nat} {ks : List Nat} {pf : Pos} (hg : glb p (M.fnm f) = true) (hs : es.all notStar = true) (hk : (n, ks) ∈ Fn.kws) (hn : kws.map (·.1) = ks.map fun j => (M.pnm f).getD j "") :
    PE X (.Call (.Name (M.fnm f) pf) es (mkKw kws) pos) (tCallA n ks.length Fn.np ks (spF M k f) (WE W) (tPos X es) (tKs X (kws.map (·.2.1)))) := by
  obtain ⟨fa, fd, A⟩ := fo f Fn hf
  have ok : FnOk X.prog X.w X.K X.mg X.base (L2.CX X.prog X.w) k fa fd (M.pnm f) (spF M k f) := by rw [g.prog, g.w, g.K, g.mg, g.base]; exact A.ok
  have hm : X.mg (M.fnm f) = some (.ref fa) := by rw [g.mg]; exact A.mg
  have hkp : PySem.W.keepIn X.K (.ref fa) = true := by rw [g.K]; exact A.kp
  have hnm := hn
  refine ⟨fun pins s σ H Q I h => ?_⟩
  refine wpAny_Call_Name_kw (ld_glob I (gl_of g hg) hm ?_ A.dbg)
  have fin : ∀ {vs : List V} {us : List Value} {s1 : Shared} {H1 : Hp}, Vals vs us → Inv X pins σ H1 s1 → tKs X (kws.map (·.2.1)) σ H1 (fun zs H2 => vs.length = n ∧ zs.length = ks.length ∧ ∃ vz, arr Fn.np vs ks zs = some vz ∧ spF M k f vz H2 Q (WE W σ)) →
      wpAny (model X.prog X.w) X.A (evalAll ((backToKw pos (keywordEach (mkKw kws) X.env)).map (·.2))) (fun kv s₂ => X.K.In s₂.heap ∧ wpAny (model X.prog X.w) X.A (call (.ref fa) us (((backToKw pos (keywordEach (mkKw kws) X.env)).filterMap (·.1)).zip kv)) (EP X pins σ Q) X.xe s₂) X.xe s1 := fun {vs us s1 H1} r I1 q => by
    refine thn ((pk_ks X kws).run pos pins s1 σ H1 _ I1 q) fun ws s2 ⟨zs, H2, I2, rz, l1, l2, vz, ha, q2⟩ => ⟨I2.kIn, ?_⟩
    rw [kw_names, hnm]
    obtain ⟨uz, hu, ru⟩ := arr_relL r rz ha
    exact run_fnA ok g.room (passAt g.takes σ) I2 (A.kb n ks hk s2 us ws uz (by rw [← g.K]; exact I2.kIn) (by rw [← r.length]; exact l1) (by rw [← rz.length]; exact l2) hu) ru q2
  cases es with
  | nil => exact PySem.W.callWith_KW0 (h₀ := X.base) I.ok.mod.kin hkp (kw_all kws X.env) (fin .nil I h) (by rw [kw_none]; rfl)
  | cons e es =>
    simp only [List.all_cons, Bool.and_eq_true] at hs
    refine PySem.W.callWith_KW (h₀ := X.base) I.ok.mod.kin hkp (kw_all kws X.env) (thn ((paS X (e :: es)).run pos pins s σ H _ I h) fun us s1 ⟨vs, H1, I1, r, q⟩ => fin r I1 q) (by
      rw [kw_none, Bool.or_false]
      exact all_notStar_pl (by simp [hs.1, hs.2]) X.env) (starEach_cons hs.1 es X.env)
/-- the keywords' values -/
def SK (M : Mdl) (k : Nat) (p : Plc) (lk : Lk) (es : List Expr) (ies : List IE) : Prop := ∀ (X : Cx) (W : WX), Good M k p W X → ∀ (env : Env) (σ : L2.St) (F G H : Hp) (Q : List V → Hp → Prop), M.St env σ F G H →
  Post M W σ F G (fun ds _ F' H' => ∀ vs, Paired (M.RV F' σ) vs ds → Q vs H') (evEs M.T (callF M.T k) lk ies env) → tKs X es σ H Q
theorem sK_nil : SK M k p lk [] [] := by
  intro X W g env σ F G H Q S hp
  rw [evEs] at hp
  exact hp.ok (Ex.refl _) S [] .nil
theorem sK_cons {es : List Expr} {ies : List IE} (hi : ∀ e', ie ≠ .star e') (he : SE M k p lk e ie) (hr : SK M k p lk es ies) : SK M k p lk (e :: es) (ie :: ies) := by
  intro X W g env σ F G H Q S hp
  refine he X W g env σ F G H _ S ?_
  rw [evEs_cons hi] at hp
  refine hp.bind fun d1 env1 F1 H1 e1 x1 S1 hp1 v1 r1 => hr X W g env1 σ F1 G H1 _ S1 (hp1.bind fun ds env2 F2 H2 e2 x2 S2 hp2 vs rs => ?_)
  exact hp2.ok (Ex.refl _) S2 (v1 :: vs) (.cons (rv_mono x2 r1) rs)
theorem evEs_app : ∀ (as bs : List IE) (env : Env), evEs M.T (callF M.T k) lk (as ++ bs) env = ((evEs M.T (callF M.T k) lk as env).bind fun p => (evEs M.T (callF M.T k) lk bs p.2).bind fun q => .ok (p.1 ++ q.1, q.2))
  | [], bs, env => by
    simp only [List.nil_append, evEs, R.bind_ok]
    cases evEs M.T (callF M.T k) lk bs env <;> rfl
  | a :: as, bs, env => by
    have go : ∀ (r : R (List D × Env)) , (r.bind fun p => (evEs M.T (callF M.T k) lk (as ++ bs) p.2).bind fun q => .ok (p.1 ++ q.1, q.2)) = ((r.bind fun p => (evEs M.T (callF M.T k) lk as p.2).bind fun q => .ok (p.1 ++ q.1, q.2)).bind fun p => (evEs M.T (callF M.T k) lk bs p.2).bind fun q => .ok (p.1 ++ q.1, q.2)) := by
      intro r
      cases r with
      | no => rfl
      | ex _ _ _ => rfl
      | ok p =>
        simp only [R.bind_ok]
        rw [evEs_app as bs p.2]
        cases evEs M.T (callF M.T k) lk as p.2 with
        | no => rfl
        | ex _ _ _ => rfl
        | ok q =>
          simp only [R.bind_ok]
          cases evEs M.T (callF M.T k) lk bs q.2 with
          | no => rfl
          | ex _ _ _ => rfl
          | ok q2 => simp only [R.bind_ok, List.append_assoc]
    by_cases hs : ∃ e', a = .star e'
    · obtain ⟨e', rfl⟩ := hs
      rw [List.cons_append]
      have e1 : ∀ rest, evEs M.T (callF M.T k) lk (.star e' :: rest) env = (((evE M.T (callF M.T k) lk e' env).bind fun p => (R.of (seqOf (res p.2 p.1))).bind fun xs => .ok (xs, p.2)).bind fun p => (evEs M.T (callF M.T k) lk rest p.2).bind fun q => .ok (p.1 ++ q.1, q.2)) := by
        intro rest
        rw [evEs]
        cases evE M.T (callF M.T k) lk e' env with
        | no => rfl
        | ex _ _ _ => rfl
        | ok p =>
          simp only [R.bind_ok]
          cases seqOf (res p.2 p.1) <;> rfl
      rw [e1, e1, go]
    · have hi : ∀ e', a ≠ .star e' := fun e' z => hs ⟨e', z⟩
      rw [List.cons_append]
      have e1 : ∀ rest, evEs M.T (callF M.T k) lk (a :: rest) env = (((evE M.T (callF M.T k) lk a env).bind fun p => .ok ([p.1], p.2)).bind fun p => (evEs M.T (callF M.T k) lk rest p.2).bind fun q => .ok (p.1 ++ q.1, q.2)) := by
        intro rest
        rw [evEs_cons hi]
        cases evE M.T (callF M.T k) lk a env with
        | no => rfl
        | ex _ _ _ => rfl
        | ok p => rfl
      rw [e1, e1, go]
theorem evEs_lenB : ∀ {as : List IE} {env env' : Env} {ds : List D}, as.any isStar = false → evEs M.T (callF M.T k) lk as env = .ok (ds, env') → ds.length = as.length
  | [], _, _, _, _, h => by rw [evEs] at h; cases h; rfl
  | a :: as, env, env', ds, hs, h => by
    simp only [List.any_cons, Bool.or_eq_false_iff] at hs
    have hi : ∀ e', a ≠ .star e' := fun e' z => by subst z; cases hs.1
    rw [evEs_cons hi] at h
    cases h1 : evE M.T (callF M.T k) lk a env with
    | no => rw [h1] at h; cases h
    | ex _ _ _ => rw [h1] at h; cases h
    | ok p =>
      rw [h1] at h
      simp only [R.bind_ok] at h
      cases h2 : evEs M.T (callF M.T k) lk as p.2 with
      | no => rw [h2] at h; cases h
      | ex _ _ _ => rw [h2] at h; cases h
      | ok q =>
        rw [h2] at h
        cases h
        simp [evEs_lenB hs.2 h2]
theorem callK {f : Nat} {Fn : IFun} (fo : FnsOk M k) (hf : M.T.fn f = some Fn) {es : List Expr} {kws : List (Str × Expr × Pos)} {n : Nat} {ks : List Nat} {pf : Pos} {ies iks : List IE} (hg : glb p (M.fnm f) = true) (hs : es.all notStar = true) (hk : (n, ks) ∈ Fn.kws)
    (hn : kws.map (·.1) = ks.map fun j => (M.pnm f).getD j "") (hr : SA M k p lk es ies) (hks : SK M k p lk (kws.map (·.2.1)) iks) (hem : es = [] → ies = []) (h1 : ies.length = n) (h2 : iks.length = ks.length) (hst : (ies ++ iks).any isStar = false)
    {P : D → Env → Hp → Hp → Prop} {Q : VK} (g : Good M k p W X) (S : M.St env σ F G H) (hp : Post M W σ F G P (evE M.T (callF M.T k) lk (.call f (ies ++ iks) ks) env))
    (hP : ∀ d env' F' H', M.St env' σ F' G H' → P d env' F' H' → if Fn.fresh then ∀ a, F' a = none → G a = none → (∀ i, ¬ Owns env' σ i a) → OwnAt M.cl M.K F' H' a d → Q (.ref a) H' else ∀ v, M.Rep F' v d → Q v H') : sE X (.Call (.Name (M.fnm f) pf) es (mkKw kws) pos) σ H Q := by
  have hpos : ∀ {Q : List V → Hp → Prop}, Post M W σ F G (fun ds _ F' H' => ∀ vs, Paired (M.RV F' σ) vs ds → Q vs H') (evEs M.T (callF M.T k) lk ies env) → tPos X es σ H Q := fun {Q} q => by
    cases es with
    | nil =>
      rw [hem rfl, evEs] at q
      exact q.ok (Ex.refl _) S [] .nil
    | cons e es => exact hr X W g env σ F G H _ S q
  refine sE_of (pe_fnK fo g hf hg hs hk hn) (hpos ?_)
  rw [evE, evEs_app] at hp
  simp only [List.any_append, Bool.or_eq_false_iff] at hst
  have hp' : Post M W σ F G P ((evEs M.T (callF M.T k) lk ies env).bind fun p => (evEs M.T (callF M.T k) lk iks p.2).bind fun q => (R.of (arr Fn.np p.1 ks q.1)).bind fun ds => if nodupOwn ds [] then (R.of (ds.mapM (entOf q.2))).bind fun as => callR ds q.2 (callF M.T k f as) else .no) := by
    cases e1 : evEs M.T (callF M.T k) lk ies env with
    | no => rw [e1] at hp; exact hp
    | ex _ _ _ => rw [e1] at hp; exact hp
    | ok q =>
      rw [e1] at hp
      simp only [R.bind_ok] at hp ⊢
      cases e2 : evEs M.T (callF M.T k) lk iks q.2 with
      | no => rw [e2] at hp; exact hp
      | ex _ _ _ => rw [e2] at hp; exact hp
      | ok q2 =>
        rw [e2] at hp
        have l2 : q2.1.length = ks.length := by rw [evEs_lenB hst.2 e2, h2]
        simp only [R.bind_ok, hf, R.of_some, List.length_append, l2, Nat.add_sub_cancel, List.take_left', List.drop_left'] at hp ⊢
        exact hp
  refine hp'.bind fun ds1 env1 F1 H1 e1 x1 S1 hp1 vs rs => hks X W g env1 σ F1 G H1 _ S1 (hp1.bind fun ds2 env2 F2 H2 e2 x2 S2 hp2 zs rz => ?_)
  obtain ⟨ds, ha, hp3⟩ := hp2.of
  have rs' := paired_mono x2 rs
  obtain ⟨vz, hv, rvz⟩ := arr_rel rs' rz ha
  refine ⟨?_, ?_, vz, hv, call_post hf S2 rvz (arr_len ha) hp3 hP⟩
  · rw [rs.length, evEs_lenB hst.1 e1, h1]
  · rw [rz.length, evEs_lenB hst.2 e2, h2]
theorem sE_callK {f : Nat} {Fn : IFun} (fo : FnsOk M k) (hf : M.T.fn f = some Fn) (hfr : Fn.fresh = false) {es : List Expr} {kws : List (Str × Expr × Pos)} {n : Nat} {ks : List Nat} {pf : Pos} {ies iks : List IE} (hg : glb p (M.fnm f) = true) (hs : es.all notStar = true) (hk : (n, ks) ∈ Fn.kws)
    (hn : kws.map (·.1) = ks.map fun j => (M.pnm f).getD j "") (hr : SA M k p lk es ies) (hks : SK M k p lk (kws.map (·.2.1)) iks) (hem : es = [] → ies = []) (h1 : ies.length = n) (h2 : iks.length = ks.length) (hst : (ies ++ iks).any isStar = false) :
    SE M k p lk (.Call (.Name (M.fnm f) pf) es (mkKw kws) pos) (.call f (ies ++ iks) ks) := fun X W g env σ F G H Q S hp => callK fo hf hg hs hk hn hr hks hem h1 h2 hst g S hp fun d env' F' H' S' q => by
  rw [hfr]
  intro v rv
  refine q v ?_
  cases d with
  | own i => cases rv
  | _ => exact rv
theorem sN_callK {f : Nat} {Fn : IFun} (fo : FnsOk M k) (hf : M.T.fn f = some Fn) (hfr : Fn.fresh = true) {es : List Expr} {kws : List (Str × Expr × Pos)} {n : Nat} {ks : List Nat} {pf : Pos} {ies iks : List IE} (hg : glb p (M.fnm f) = true) (hs : es.all notStar = true) (hk : (n, ks) ∈ Fn.kws)
    (hn : kws.map (·.1) = ks.map fun j => (M.pnm f).getD j "") (hr : SA M k p lk es ies) (hks : SK M k p lk (kws.map (·.2.1)) iks) (hem : es = [] → ies = []) (h1 : ies.length = n) (h2 : iks.length = ks.length) (hst : (ies ++ iks).any isStar = false) :
    SN M k p lk (.Call (.Name (M.fnm f) pf) es (mkKw kws) pos) (.call f (ies ++ iks) ks) := fun X W g env σ F G H Q S hp => callK fo hf hg hs hk hn hr hks hem h1 h2 hst g S hp fun d env' F' H' S' q => by
  rw [hfr]
  exact fun a fa ga no oa => q.2 (ownAt_obj oa) a fa ga no oa

/-! ### a new object is given away -/
theorem call1_post {f : Nat} {Fn : IFun} (hf : M.T.fn f = some Fn) (hnp : Fn.np = 1) {Q : VK} {P : D → Env → Hp → Hp → Prop} {a : Addr} {d : D} {H1 : Hp} (S : M.St env σ F G H1) (fa : F a = none) (ga : G a = none) (no : ∀ i, ¬ Owns env σ i a) (oa : OwnAt M.cl M.K F H1 a d)
    (hp : Post M W σ F G P ((R.noEx (callF M.T k f [.ow d])).bind fun r => .ok (r.1, env)))
    (hP : ∀ d F' H', M.St env σ F' G H' → P d env F' H' → if Fn.fresh then ∀ a, F' a = none → G a = none → (∀ i, ¬ Owns env σ i a) → OwnAt M.cl M.K F' H' a d → Q (.ref a) H' else ∀ v, M.Rep F' v d → Q v H') : spF M k f [.ref a] H1 Q (WE W σ) := by
  have hFG : ∀ b u, G b = some u → F b = none := fun b u e => by
    cases z : F b with
    | none => rfl
    | some w => have := S.fg b (by rw [z]; simp); rw [e] at this; cases this
  have hin : ∀ b u, G b = some u → restH F H1 (fun b => b = a) b = some u := fun b u e => by
    rw [restH_of (hFG b u e) (fun z => by subst z; rw [ga] at e; cases e)]
    exact S.gh b u e
  refine ⟨Fn, [.ow d], F, restH F H1 (fun b => b = a), hf, hnp.symm, ⟨S.fh, fun b u r => (restH_some r).2.2, fun b h => restH_none (.inl h), rfl, fun i => ?_, fun i j b hij h1 h2 => ?_⟩, ?_⟩
  · cases i with
    | zero => exact ⟨a, rfl, fa, restH_none (.inr rfl), oa⟩
    | succ i => rw [getE_cons_succ, getE_nil]; trivial
  · have z : ∀ {i : Nat}, Owns [.ow d] [some (V.ref a)] i b → i = 0 := fun {i} ⟨⟨x, e⟩, _⟩ => by
      cases i with
      | zero => rfl
      | succ i => rw [getE_cons_succ, getE_nil] at e; cases e
    exact hij ((z h1).trans (z h2).symm)
  · cases hc : callF M.T k f [.ow d] with
    | no => rw [hc] at hp; exact hp
    | ex c fs e => rw [hc] at hp; exact hp.elim
    | ok r =>
      rw [hc] at hp
      intro F' H' x S2
      have own : ∀ i b dd, getE env i = .ow dd → σ[i]? = some (some (.ref b)) → F b = none → OwnAt M.cl M.K F H1 b dd → F' b = none ∧ H' b = H1 b := fun i b dd e ea fb ob => by
        have hb : b ≠ a := fun z => by subst z; exact no i ⟨⟨dd, e⟩, ea⟩
        have hr : restH F H1 (fun b => b = a) b = H1 b := restH_of fb hb
        cases z : H1 b with
        | none => exact absurd z ob.there
        | some u =>
          rw [z] at hr
          refine ⟨?_, S2.gh b u hr⟩
          cases q : F' b with
          | none => rfl
          | some w => have := S2.fg b (by rw [q]; simp); rw [hr] at this; cases this
      have S3 : M.St env σ F' G H' := by
        refine ⟨S2.fh, fun b u e => S2.gh b u (hin b u e), fun b h => ?_, S.len, fun i => ?_, S.sep⟩
        · cases z : G b with
          | none => rfl
          | some u => have := S2.fg b h; rw [hin b u z] at this; cases this
        · have q := S.ent i
          cases e : getE env i with
          | no => trivial
          | fz dd => rw [e] at q; obtain ⟨v, q1, q2⟩ := q; exact ⟨v, q1, q2.mono x⟩
          | ow dd =>
            rw [e] at q
            obtain ⟨b, q1, q2, q3, q4⟩ := q
            obtain ⟨w1, w2⟩ := own i b dd e q1 q2 q4
            exact ⟨b, q1, w1, q3, (q4.mono x).at w2⟩
      have q := hP r.1 F' H' S3 (hp F' H' x S3)
      unfold PR
      split at q
      · rename_i hfr
        rw [if_pos hfr]
        intro b fb gb nb ob
        refine q b fb ?_ (fun i ⟨⟨dd, e⟩, ea⟩ => ?_) ob
        · cases z : G b with
          | none => rfl
          | some u => rw [hin b u z] at gb; cases gb
        · have w := S.ent i
          rw [e] at w
          obtain ⟨b', q1, q2, q3, q4⟩ := w
          rw [ea] at q1
          cases q1
          have hb : b ≠ a := fun z => by subst z; exact no i ⟨⟨dd, e⟩, ea⟩
          rw [restH_of q2 hb] at gb
          exact q4.there gb
      · rename_i hfr
        rw [if_neg hfr]
        exact q
theorem call1_all {f : Nat} {Fn : IFun} (fo : FnsOk M k) (hf : M.T.fn f = some Fn) {pf : Pos} (hg : glb p (M.fnm f) = true) (hs : notStar e = true) (he : SN M k p lk e ie) {P : D → Env → Hp → Hp → Prop} {Q : VK} (g : Good M k p W X) (S : M.St env σ F G H) (hp : Post M W σ F G P (evE M.T (callF M.T k) lk (.call1 f ie) env))
    (hP : ∀ d env' F' H', M.St env' σ F' G H' → P d env' F' H' → if Fn.fresh then ∀ a, F' a = none → G a = none → (∀ i, ¬ Owns env' σ i a) → OwnAt M.cl M.K F' H' a d → Q (.ref a) H' else ∀ v, M.Rep F' v d → Q v H') : sE X (.Call (.Name (M.fnm f) pf) [e] [] pos) σ H Q := by
  obtain ⟨t, pe, ht⟩ := pe_fn (pos := pos) (pf := pf) fo g hf hg (es := [e]) (by simp) (by simp [hs])
  refine sE_of pe (ht σ H Q (sA_of (pa_cons (peS X e) pa_nil (starEach_cons hs [] X.env)) (he X W g env σ F G H _ S ?_)))
  rw [evE] at hp
  refine hp.bind fun d env1 F1 H1 e1 x1 S1 hp1 => ?_
  by_cases ho : isObj d = true
  · refine ⟨fun z => (by rw [ho] at z; cases z), fun _ a fa ga no oa => ?_⟩
    simp only [ho, if_true, hf, R.of_some, R.bind_ok] at hp1
    by_cases hn : Fn.np = 1
    · rw [if_pos hn] at hp1
      exact call1_post hf hn S1 fa ga no oa hp1 fun d F' H' S' q => hP d env1 F' H' S' q
    · rw [if_neg hn] at hp1; exact hp1.elim
  · simp only [ho, if_false] at hp1
    exact hp1.elim
theorem sE_call1 {f : Nat} {Fn : IFun} (fo : FnsOk M k) (hf : M.T.fn f = some Fn) (hfr : Fn.fresh = false) {pf : Pos} (hg : glb p (M.fnm f) = true) (hs : notStar e = true) (he : SN M k p lk e ie) : SE M k p lk (.Call (.Name (M.fnm f) pf) [e] [] pos) (.call1 f ie) := fun X W g env σ F G H Q S hp => call1_all fo hf hg hs he g S hp fun d env' F' H' S' q => by
  rw [hfr]
  intro v rv
  refine q v ?_
  cases d with
  | own i => cases rv
  | _ => exact rv
theorem sN_call1 {f : Nat} {Fn : IFun} (fo : FnsOk M k) (hf : M.T.fn f = some Fn) (hfr : Fn.fresh = true) {pf : Pos} (hg : glb p (M.fnm f) = true) (hs : notStar e = true) (he : SN M k p lk e ie) : SN M k p lk (.Call (.Name (M.fnm f) pf) [e] [] pos) (.call1 f ie) := fun X W g env σ F G H Q S hp => call1_all fo hf hg hs he g S hp fun d env' F' H' S' q => by
  rw [hfr]
  exact fun a fa ga no oa => q.2 (ownAt_obj oa) a fa ga no oa
end
end IV

set_option linter.all false
set_option Elab.async false
set_option maxRecDepth 100000
set_option maxHeartbeats 4000000
/-! IV8: targets, what a loop walks (own work). -/
namespace IV
open PySem L2 PySem.Spec PyProof.Rows

section
variable {M : Mdl} {k : Nat} {p : Plc} {lk : Lk} {X : Cx} {W : WX} {e a b c tg : Expr} {ie ia ib ic : IE} {pos : Pos} {F F' G H H' : Hp} {env : Env} {σ : L2.St}

/-! ### names are bound -/
theorem St_set_fz (S : M.St env σ F G H) {i : Nat} {v : V} {d : D} (hi : i < env.length) (r : M.Rep F v d) : M.St (env.set i (.fz d)) (σ.set i (some v)) F G H := by
  refine ⟨S.fh, S.gh, S.fg, by simp [S.len], fun j => ?_, fun j m a hjm h1 h2 => ?_⟩
  · by_cases hj : i = j
    · subst hj
      rw [getE_set_same hi, List.getElem?_set_self (by rw [← S.len]; exact hi)]
      exact ⟨v, rfl, r⟩
    · rw [getE_set_ne hj, List.getElem?_set_ne hj]
      exact S.ent j
  · have ne : ∀ {q : Nat}, Owns (env.set i (.fz d)) (σ.set i (some v)) q a → Owns env σ q a := fun {q} ⟨⟨x, hx⟩, hv⟩ => by
      have hq : i ≠ q := fun z => by subst z; rw [getE_set_same hi] at hx; cases hx
      rw [getE_set_ne hq] at hx
      rw [List.getElem?_set_ne hq] at hv
      exact ⟨⟨x, hx⟩, hv⟩
    exact S.sep j m a hjm (ne h1) (ne h2)
theorem St_set_ow (S : M.St env σ F G H) {i : Nat} {a : Addr} {d : D} (hi : i < env.length) (fa : F a = none) (ga : G a = none) (no : ∀ j, ¬ Owns env σ j a) (oa : OwnAt M.cl M.K F H a d) : M.St (env.set i (.ow d)) (σ.set i (some (.ref a))) F G H := by
  have ne : ∀ {q : Nat} {b : Addr}, i ≠ q → Owns (env.set i (.ow d)) (σ.set i (some (.ref a))) q b → Owns env σ q b := fun {q b} hq ⟨⟨x, hx⟩, hv⟩ => by
    rw [getE_set_ne hq] at hx
    rw [List.getElem?_set_ne hq] at hv
    exact ⟨⟨x, hx⟩, hv⟩
  have eq : ∀ {b : Addr}, Owns (env.set i (.ow d)) (σ.set i (some (.ref a))) i b → b = a := fun {b} ⟨_, hv⟩ => by
    rw [List.getElem?_set_self (by rw [← S.len]; exact hi)] at hv
    cases hv; rfl
  refine ⟨S.fh, S.gh, S.fg, by simp [S.len], fun j => ?_, fun j m b hjm h1 h2 => ?_⟩
  · by_cases hj : i = j
    · subst hj
      rw [getE_set_same hi, List.getElem?_set_self (by rw [← S.len]; exact hi)]
      exact ⟨a, rfl, fa, ga, oa⟩
    · rw [getE_set_ne hj, List.getElem?_set_ne hj]
      exact S.ent j
  · by_cases hj : i = j
    · subst hj
      have := eq h1
      subst this
      exact no m (ne hjm h2)
    · by_cases hm : i = m
      · subst hm
        have := eq h2
        subst this
        exact no j (ne hj h1)
      · exact S.sep j m b hjm (ne hj h1) (ne hm h2)
/-- a name forgets -/
theorem St_no (S : M.St env σ F G H) (i : Nat) (ov : Option V) : M.St (env.set i .no) (σ.set i ov) F G H := by
  refine ⟨S.fh, S.gh, S.fg, by simp [S.len], fun j => ?_, fun j m a hjm h1 h2 => ?_⟩
  · by_cases hj : i = j
    · subst hj
      by_cases hi : i < env.length
      · rw [getE_set_same hi]; trivial
      · have : getE (env.set i .no) i = .no := by
          unfold getE List.getD
          rw [List.getElem?_eq_none (by simp; omega)]; rfl
        rw [this]; trivial
    · rw [getE_set_ne hj, List.getElem?_set_ne hj]
      exact S.ent j
  · have ne : ∀ {q : Nat}, Owns (env.set i .no) (σ.set i ov) q a → Owns env σ q a := fun {q} ⟨⟨x, hx⟩, hv⟩ => by
      have hq : i ≠ q := fun z => by
        subst z
        by_cases hi : i < env.length
        · rw [getE_set_same hi] at hx; cases hx
        · have : getE (env.set i .no) i = .no := by
            unfold getE List.getD
            rw [List.getElem?_eq_none (by simp; omega)]; rfl
          rw [this] at hx; cases hx
      rw [getE_set_ne hq] at hx
      rw [List.getElem?_set_ne hq] at hv
      exact ⟨⟨x, hx⟩, hv⟩
    exact S.sep j m a hjm (ne h1) (ne h2)
/-- an owned object is changed -/
theorem St_upd (S : M.St env σ F G H) {i : Nat} {a : Addr} {d d' : D} {o : HO} (he : getE env i = .ow d) (ha : σ[i]? = some (some (.ref a))) (hnew : OwnAt M.cl M.K F (upd H a o) a d') (hins : ∀ C dx fs, F a = some (.ins C dx fs) → False) : M.St (env.set i (.ow d')) σ F G (upd H a o) := by
  have hi : i < env.length := getE_len ⟨d, he⟩
  have q := S.ent i
  rw [he] at q
  obtain ⟨b, eb, fa, ga, _⟩ := q
  rw [ha] at eb
  cases eb
  have own : ∀ {j : Nat} {b : Addr}, Owns (env.set i (.ow d')) σ j b → Owns env σ j b := fun {j b} ⟨⟨x, hx⟩, hv⟩ => by
    by_cases hj : i = j
    · subst hj; exact ⟨⟨d, he⟩, hv⟩
    · rw [getE_set_ne hj] at hx; exact ⟨⟨x, hx⟩, hv⟩
  refine ⟨⟨fun c u r => ?_, fun c u hu r => ?_, fun c ob u r => ?_⟩, fun c u r => ?_, S.fg, by simp [S.len], fun j => ?_, fun j m b hjm h1 h2 => S.sep j m b hjm (own h1) (own h2)⟩
  · have hc : c ≠ a := fun z => by
      subst z
      rcases r with r | ⟨_, r⟩ <;> (rw [fa] at r; cases r)
    rcases S.fh.rd c u r with r | ⟨ob, r⟩
    · exact .inl (by rw [upd_ne hc]; exact r)
    · exact .inr ⟨ob, by rw [upd_ne hc]; exact r⟩
  · have hc : c ≠ a := fun z => by subst z; rw [fa] at r; cases r
    rw [upd_ne hc]; exact S.fh.stb _ _ hu r
  · have hc : c ≠ a := fun z => by subst z; rw [fa] at r; cases r
    rw [upd_ne hc]; exact S.fh.frz _ _ _ r
  · have hc : c ≠ a := fun z => by subst z; rw [ga] at r; cases r
    rw [upd_ne hc]; exact S.gh _ _ r
  · by_cases hj : i = j
    · subst hj
      rw [getE_set_same hi, ha]
      exact ⟨a, rfl, fa, ga, hnew⟩
    · rw [getE_set_ne hj]
      have q := S.ent j
      cases e : getE env j with
      | no => trivial
      | fz d => rw [e] at q; exact q
      | ow dd =>
        rw [e] at q
        obtain ⟨b, q1, q2, q3, q4⟩ := q
        have hb : b ≠ a := fun z => by
          subst z
          exact S.sep i j b hj ⟨⟨d, he⟩, ha⟩ ⟨⟨dd, e⟩, q1⟩
        exact ⟨b, q1, q2, q3, q4.at (upd_ne hb)⟩

/-! ### targets -/
/-- a name that may be bound, in this slot -/
def binds (p : Plc) (i : Nat) (x : Str) : Bool := decide (p.N[i]? = some x) && p.lc x
theorem pgn_of (g : Good M k p W X) {i : Nat} {x : Str} (h : binds p i x = true) : PG X (.Name x pos) (gName i) := by
  unfold binds at h
  simp only [Bool.and_eq_true, decide_eq_true_eq] at h
  obtain ⟨h1, h2⟩ := g.loc x h.2
  exact pg_name (by rw [g.names]; exact g.nd) (by rw [g.names]; exact h.1) h1 h2
def chkN (p : Plc) : Nat → Expr → Bool
  | i, .Name x _ => binds p i x
  | _, _ => false
def chkNs (p : Plc) : List Nat → List Expr → Bool
  | [], [] => true
  | i :: is, e :: es => chkN p i e && chkNs p is es
  | _, _ => false
def chkT (p : Plc) : List Nat → Expr → Bool
  | is, .Tuple es _ _ => chkNs p is es
  | _, _ => false
def chkTg (p : Plc) (t : Tg) (e : Expr) : Bool := match t with
  | .n i => chkN p i e
  | .t is => chkT p is e
def gNs : List Nat → TGs
  | [] => gNil
  | i :: is => gCons (gName i) (gNs is)
theorem pgns_of (g : Good M k p W X) : ∀ {is : List Nat} {es : List Expr}, chkNs p is es = true → PGs X es (gNs is) ∧ (assignEach es X.env).length = is.length ∧ (assignEach es X.env).findIdx? (·.1) = none
  | [], [], _ => ⟨pgs_nil, rfl, rfl⟩
  | i :: is, e :: es, h => by
    unfold chkNs at h
    rw [Bool.and_eq_true] at h
    obtain ⟨h1, h2⟩ := h
    obtain ⟨q1, q2, q3⟩ := pgns_of g h2
    unfold chkN at h1
    split at h1
    · rename_i x pos
      refine ⟨pgs_cons (pgn_of g h1) q1 rfl, by show (assignEach es X.env).length + 1 = _; rw [q2]; rfl, ?_⟩
      show List.findIdx? (·.1) ((false, assign (.Name x pos) X.env) :: assignEach es X.env) = none
      rw [List.findIdx?_cons]
      simp only [Bool.false_eq_true, if_false, q3, Option.map_none]
    · cases h1
  | [], _ :: _, h => by cases h
  | _ :: _, [], h => by cases h
def sG (X : Cx) (tg : Expr) : TG := fun v σ H Q => ∀ (pins : List (Addr × Obj)) (s : Shared) (u : Value), Inv X pins σ H s → RelV v u → wpAny (model X.prog X.w) X.A (assign tg X.env u) (fun _ s' => ∃ σ' H', Inv X pins σ' H' s' ∧ Q σ' H') X.xe s
theorem pgS (X : Cx) (tg : Expr) : PG X tg (sG X tg) := ⟨fun pins s _ _ _ u _ I r h => h pins s u I r⟩
theorem sG_of {t : TG} (h : PG X tg t) {v : V} {Q : L2.St → Hp → Prop} (q : t v σ H Q) : sG X tg v σ H Q := fun pins s u I r => h.run pins s σ H v u Q I r q
/-- locked names are as they were -/
def Kept (lk : Lk) (σ σ' : L2.St) : Prop := σ'.length = σ.length ∧ ∀ i, lk i = true → σ'[i]? = σ[i]?
theorem Kept.refl : Kept lk σ σ := ⟨rfl, fun _ _ => rfl⟩
theorem Kept.trans {σ1 σ2 : L2.St} (h : Kept lk σ σ1) (h' : Kept lk σ1 σ2) : Kept lk σ σ2 := ⟨h'.1.trans h.1, fun i hi => (h'.2 i hi).trans (h.2 i hi)⟩
theorem setE_some {i : Nat} {en : Ent} {env' : Env} (h : setE lk i en env = some env') : lk i = false ∧ i < env.length ∧ env' = env.set i en := by
  unfold setE at h
  split at h
  · cases h
  · rename_i hl
    split at h
    · rename_i hi
      cases h
      exact ⟨by simpa using hl, hi, rfl⟩
    · cases h
theorem kept_set {i : Nat} {ov : Option V} (h : lk i = false) : Kept lk σ (σ.set i ov) := ⟨List.length_set, fun j hj => by
  rw [List.getElem?_set_ne]
  rintro rfl
  rw [h] at hj; cases hj⟩
/-- only these slots have changed -/
def Chg (is : List Nat) (σ σ' : L2.St) : Prop := σ'.length = σ.length ∧ ∀ j, j ∉ is → σ'[j]? = σ[j]?
theorem Chg.refl (is : List Nat) (σ : L2.St) : Chg is σ σ := ⟨rfl, fun _ _ => rfl⟩
theorem Chg.kept {is : List Nat} {σ σ' : L2.St} (h : Chg is σ σ') (hl : ∀ j ∈ is, lk j = false) : Kept lk σ σ' := ⟨h.1, fun j hj => h.2 j fun hm => by
  rw [hl j hm] at hj; cases hj⟩
def tgS : Tg → List Nat
  | .n i => [i]
  | .t is => is
theorem gNs_ok : ∀ {is : List Nat} {vs : List V} {ds : List D} {env env' : Env} {σ : L2.St} {Q : L2.St → Hp → Prop}, M.St env σ F G H → M.Reps F vs ds → setsE lk is ds env = some env' →
    (∀ σ', M.St env' σ' F G H → Chg is σ σ' → (∀ j ∈ is, lk j = false) → Q σ' H) → gNs is vs σ H Q
  | [], _, _, env, env', σ, Q, S, .nil, h, q => by
    simp only [setsE, Option.some.injEq] at h
    subst h
    exact ⟨rfl, q σ S (Chg.refl _ _) (fun _ h => by simp at h)⟩
  | i :: is, _, _, env, env', σ, Q, S, .cons r rs, h, q => by
    simp only [setsE] at h
    split at h
    · cases h
    · cases h1 : setE lk i (.fz _) env with
      | none => rw [h1] at h; cases h
      | some env1 =>
        rw [h1] at h
        obtain ⟨hl, hi, rfl⟩ := setE_some h1
        exact ⟨_, _, rfl, gNs_ok (St_set_fz S hi r) rs h fun σ' S' kp kl => q σ' S' ⟨by rw [kp.1, List.length_set], fun j hj => by
          simp only [List.mem_cons, not_or] at hj
          rw [kp.2 j hj.2, List.getElem?_set_ne (Ne.symm hj.1)]⟩ fun j hj => by
            rcases List.mem_cons.mp hj with rfl | hj
            · exact hl
            · exact kl j hj⟩
  | [], _, _, _, _, _, _, _, .cons _ _, h, _ => by simp only [setsE] at h; cases h
  | _ :: _, _, _, _, _, _, _, _, .nil, h, _ => by simp only [setsE] at h; cases h
theorem setsE_len {is : List Nat} : ∀ {ds : List D} {env env' : Env}, setsE lk is ds env = some env' → ds.length = is.length := by
  induction is with
  | nil => intro ds env env' h; cases ds with | nil => rfl | cons _ _ => simp only [setsE] at h; cases h
  | cons i is ih =>
    intro ds env env' h
    cases ds with
    | nil => simp only [setsE] at h; cases h
    | cons d ds =>
      simp only [setsE] at h
      split at h
      · cases h
      · cases h1 : setE lk i (.fz d) env with
        | none => rw [h1] at h; cases h
        | some env1 => rw [h1] at h; simp [ih h]
theorem tgE_ok (g : Good M k p W X) {t : Tg} (hc : chkTg p t tg = true) (S : M.St env σ F G H) {v : V} {d : D} {env' : Env} (r : M.Rep F v d) (h : tgE lk t d env = some env') {Q : L2.St → Hp → Prop} (q : ∀ σ', M.St env' σ' F G H → Chg (tgS t) σ σ' → (∀ j ∈ tgS t, lk j = false) → Q σ' H) : sG X tg v σ H Q := by
  unfold tgE at h
  cases t with
  | n i =>
    simp only at h
    split at h
    · cases h
    · obtain ⟨hl, hi, rfl⟩ := setE_some h
      have hc : chkN p i tg = true := hc
      unfold chkN at hc
      split at hc
      · exact sG_of (pgn_of g hc) (q _ (St_set_fz S hi r) ⟨List.length_set, fun j hj => by rw [List.getElem?_set_ne (fun z => hj (by rw [← z]; exact List.mem_singleton.mpr rfl))]⟩ fun j hj => by rw [List.mem_singleton.mp hj]; exact hl)
      · cases hc
  | t is =>
    simp only at h
    have hc : chkT p is tg = true := hc
    unfold chkT at hc
    split at hc
    · rename_i es kk tpos
      obtain ⟨q1, q2, q3⟩ := pgns_of g hc
      split at h
      · cases r with
        | tup h1 h2 =>
          refine sG_of (pg_tup g.calm q1 q2 q3) ⟨_, _, rfl, by rw [g.K]; exact S.fh.sqT h1, by rw [h2.length, setsE_len h], gNs_ok S h2 h q⟩
      · cases r with
        | lst h1 h2 =>
          refine sG_of (pg_lst g.calm q1 q2 q3) ⟨_, _, rfl, by rw [g.K]; exact S.fh.sqL h1, by rw [h2.length, setsE_len h], gNs_ok S h2 h q⟩
      · cases h
    · cases hc
end
end IV

set_option linter.all false
set_option Elab.async false
set_option maxRecDepth 100000
set_option maxHeartbeats 4000000
/-! IV9: what a loop walks; comprehensions (own work). -/
namespace IV
open PySem L2 PySem.Spec PyProof.Rows

section
variable {M : Mdl} {k : Nat} {p : Plc} {lk : Lk} {X : Cx} {W : WX} {e a b c tg iter : Expr} {ie ia ib ic : IE} {pos : Pos} {F F' G H H' : Hp} {env : Env} {σ : L2.St}

/-- an iterator that takes these items, one after another -/
def Walk (M : Mdl) (F : Hp) (J : It) (xs : List D) : Prop := ∀ F2 H2, Ex F F2 → Ex F2 H2 → (∀ (i : Nat) d, xs[i]? = some d → J.go i H2 ∧ ∀ v H3, J.yld i H2 v H3 → ∀ env σ G, M.St env σ F2 G H2 → ∃ F3, Ex F2 F3 ∧ M.St env σ F3 G H3 ∧ M.Rep F3 v d) ∧ J.stop xs.length H2
def sI (X : Cx) (tg iter : Expr) : TI := fun σ H R => ∀ (pins : List (Addr × Obj)) (s : Shared), Inv X pins σ H s → wpAny (model X.prog X.w) X.A (eval iter X.env) (fun v s1 => wpAny (model X.prog X.w) X.A (pyIter v) (PIE X pins σ tg R) X.xe s1) X.xe s
theorem piS (X : Cx) (tg iter : Expr) : PI X tg iter (sI X tg iter) := ⟨fun pins s _ _ _ I h => h pins s I⟩
theorem sI_of {t : TI} (h : PI X tg iter t) {R : It → Hp → Prop} (q : t σ H R) : sI X tg iter σ H R := fun pins s I => h.run pins s σ H R I q
def evI (M : Mdl) (k : Nat) (lk : Lk) (kk : IK) (ies : List IE) (env : Env) : R (List D × Env) := (evEs M.T (callF M.T k) lk ies env).bind fun p => if p.1.any isOwn then .no else (R.of (itD kk p.1)).bind fun xs => .ok (xs, p.2)
def SI (M : Mdl) (k : Nat) (p : Plc) (lk : Lk) (tg iter : Expr) (kk : IK) (ies : List IE) : Prop := ∀ (X : Cx) (W : WX), Good M k p W X → ∀ (env : Env) (σ : L2.St) (F G H : Hp) (R : It → Hp → Prop), M.St env σ F G H →
  Post M W σ F G (fun xs _ F' H' => ∀ J, Walk M F' J xs → R J H') (evI M k lk kk ies env) → sI X tg iter σ H R

/-- walks whose items stand -/
theorem walk_lst {a : Addr} {vs : List V} {ds : List D} (h : SqL M.K F a vs) (r : M.Reps F vs ds) : Walk M F (Itl M.K a) ds := fun F2 H2 x x2 => by
  have h2 := x2.sqL (x.sqL h)
  refine ⟨fun i d e => ?_, vs, h2, by rw [r.length]; exact Nat.le_refl _⟩
  obtain ⟨v, ev, rv⟩ := r.get e
  refine ⟨⟨vs, v, h2, ev⟩, fun w H3 ⟨e3, q⟩ env σ G S => ?_⟩
  have := q vs h2
  rw [ev] at this
  cases this
  subst e3
  exact ⟨F2, Ex.refl _, S, rv.mono x⟩
theorem walk_tup {a : Addr} {vs : List V} {ds : List D} (h : SqT M.K F a vs) (r : M.Reps F vs ds) : Walk M F (Itt M.K a) ds := fun F2 H2 x x2 => by
  have h2 := x2.sqT (x.sqT h)
  refine ⟨fun i d e => ?_, vs, h2, by rw [r.length]; exact Nat.le_refl _⟩
  obtain ⟨v, ev, rv⟩ := r.get e
  refine ⟨⟨vs, v, h2, ev⟩, fun w H3 ⟨e3, q⟩ env σ G S => ?_⟩
  have := q vs h2
  rw [ev] at this
  cases this
  subst e3
  exact ⟨F2, Ex.refl _, S, rv.mono x⟩
theorem walk_str (s : Str) : Walk M F (Its s) (chars s) := fun F2 H2 x x2 => by
  refine ⟨fun i d e => ?_, by show s.cps.size ≤ (chars s).length; simp [chars]⟩
  unfold chars at e
  rw [List.getElem?_map] at e
  cases hc : s.cps.toList[i]? with
  | none => rw [hc] at e; cases e
  | some c =>
    rw [hc] at e
    cases e
    have hc' : s.cps[i]? = some c := by rw [← Array.getElem?_toList]; exact hc
    refine ⟨(Array.getElem?_eq_some_iff.mp hc').1, fun w H3 ⟨e3, c', q, ew⟩ env σ G S => ?_⟩
    rw [hc'] at q
    cases q
    subst e3 ew
    exact ⟨F2, Ex.refl _, S, .str _⟩
theorem rangeD_get : ∀ (n : Nat) (lo : Int) (i : Nat) (d : D), (rangeD lo n)[i]? = some d → i < n ∧ d = .int (lo + i)
  | 0, _, _, _, h => by simp [rangeD] at h
  | n + 1, lo, 0, d, h => by simp [rangeD] at h; exact ⟨Nat.succ_pos _, by simp [h]⟩
  | n + 1, lo, i + 1, d, h => by
    simp [rangeD] at h
    obtain ⟨h1, h2⟩ := rangeD_get n (lo + 1) i d h
    exact ⟨by omega, by rw [h2]; congr 1; omega⟩
theorem rangeD_len : ∀ (n : Nat) (lo : Int), (rangeD lo n).length = n
  | 0, _ => rfl
  | n + 1, lo => by simp [rangeD, rangeD_len n]
theorem walk_rng (lo : Int) (n : Nat) : Walk M F (Itr lo n) (rangeD lo n) := fun F2 H2 x x2 => by
  refine ⟨fun i d e => ?_, by rw [rangeD_len]; exact Nat.le_refl _⟩
  obtain ⟨h1, rfl⟩ := rangeD_get n lo i d e
  exact ⟨h1, fun w H3 ⟨e3, ew⟩ env σ G S => by subst e3 ew; exact ⟨F2, Ex.refl _, S, .int _⟩⟩
theorem enumD_get : ∀ (ds : List D) (k : Int) (i : Nat) (d : D), (enumD k ds)[i]? = some d → ∃ x, ds[i]? = some x ∧ d = .tup [.int (k + i), x]
  | [], _, _, _, h => by simp [enumD] at h
  | x :: ds, k, 0, d, h => by simp [enumD] at h; exact ⟨x, rfl, by simp [h]⟩
  | x :: ds, k, i + 1, d, h => by
    simp [enumD] at h
    obtain ⟨y, h1, h2⟩ := enumD_get ds (k + 1) i d h
    exact ⟨y, by simpa using h1, by rw [h2]; congr 3; omega⟩
theorem enumD_len : ∀ (ds : List D) (k : Int), (enumD k ds).length = ds.length
  | [], _ => rfl
  | x :: ds, k => by simp [enumD, enumD_len ds]
/-- a new pair -/
theorem lay_pair {F2 H2 : Hp} {T : Addr} {v w : V} {d e : D} (hT : H2 T = none) {env : Env} {σ : L2.St} {G : Hp} (S : M.St env σ F2 G H2) (r : M.Rep F2 v d) (r' : M.Rep F2 w e) : ∃ F3, Ex F2 F3 ∧ M.St env σ F3 G (upd H2 T (.tup [v, w])) ∧ M.Rep F3 (.ref T) (.tup [d, e]) := by
  obtain ⟨x3, S3⟩ := S.lay (o := .tup [v, w]) hT
  exact ⟨_, x3, S3, .tup (SqT.of upd_same) (.cons (r.mono x3) (.cons (r'.mono x3) .nil))⟩
theorem walk_enum {a : Addr} {vs : List V} {ds : List D} (h : SqL M.K F a vs) (r : M.Reps F vs ds) : Walk M F (Ite M.K a) (enumD 0 ds) := fun F2 H2 x x2 => by
  have h2 := x2.sqL (x.sqL h)
  refine ⟨fun i d e => ?_, vs, h2, by rw [enumD_len, r.length]; exact Nat.le_refl _⟩
  obtain ⟨y, hy, rfl⟩ := enumD_get ds 0 i d e
  obtain ⟨v, ev, rv⟩ := r.get hy
  refine ⟨⟨vs, v, h2, ev⟩, fun w H3 ⟨T, x', ew, hT, e3, q⟩ env σ G S => ?_⟩
  have := q vs h2
  rw [ev] at this
  cases this
  subst e3 ew
  refine lay_pair hT S ?_ (rv.mono x)
  rw [Int.zero_add]
  exact .int _
theorem zipD_get : ∀ (ds es : List D) (i : Nat) (d : D), (zipD ds es)[i]? = some d → ∃ x y, ds[i]? = some x ∧ es[i]? = some y ∧ d = .tup [x, y]
  | [], _, _, _, h => by simp [zipD] at h
  | _ :: _, [], _, _, h => by simp [zipD] at h
  | x :: ds, y :: es, 0, d, h => by simp [zipD] at h; exact ⟨x, y, rfl, rfl, h.symm⟩
  | x :: ds, y :: es, i + 1, d, h => by
    simp [zipD] at h
    obtain ⟨a, b, h1, h2, h3⟩ := zipD_get ds es i d h
    exact ⟨a, b, by simpa using h1, by simpa using h2, h3⟩
theorem zipD_len : ∀ (ds es : List D), ds.length ≤ (zipD ds es).length ∨ es.length ≤ (zipD ds es).length
  | [], _ => .inl (Nat.zero_le _)
  | _ :: _, [] => .inr (Nat.zero_le _)
  | x :: ds, y :: es => by
    simp only [zipD, List.length_cons]
    rcases zipD_len ds es with h | h
    · exact .inl (Nat.succ_le_succ h)
    · exact .inr (Nat.succ_le_succ h)
theorem walk_zipL {a b : Addr} {vs ws : List V} {ds es : List D} (h : SqL M.K F a vs) (r : M.Reps F vs ds) (h' : SqL M.K F b ws) (r' : M.Reps F ws es) : Walk M F (Itz M.K a b) (zipD ds es) := fun F2 H2 x x2 => by
  have h2 := x2.sqL (x.sqL h)
  have h2' := x2.sqL (x.sqL h')
  refine ⟨fun i d e => ?_, vs, ws, h2, h2', by rw [r.length, r'.length]; exact zipD_len ds es⟩
  obtain ⟨y, z, hy, hz, rfl⟩ := zipD_get ds es i d e
  obtain ⟨v, ev, rv⟩ := r.get hy
  obtain ⟨w, ew, rw'⟩ := r'.get hz
  refine ⟨⟨vs, ws, v, w, h2, h2', ev, ew⟩, fun u H3 ⟨T, x', y', eu, hT, e3, q, q'⟩ env σ G S => ?_⟩
  have := q vs h2
  rw [ev] at this
  cases this
  have := q' ws h2'
  rw [ew] at this
  cases this
  subst e3 eu
  exact lay_pair hT S (rv.mono x) (rw'.mono x)
theorem walk_zipT {a b : Addr} {vs ws : List V} {ds es : List D} (h : SqT M.K F a vs) (r : M.Reps F vs ds) (h' : SqT M.K F b ws) (r' : M.Reps F ws es) : Walk M F (RZ.ItzT M.K a b) (zipD ds es) := fun F2 H2 x x2 => by
  have h2 := x2.sqT (x.sqT h)
  have h2' := x2.sqT (x.sqT h')
  refine ⟨fun i d e => ?_, vs, ws, h2, h2', by rw [r.length, r'.length]; exact zipD_len ds es⟩
  obtain ⟨y, z, hy, hz, rfl⟩ := zipD_get ds es i d e
  obtain ⟨v, ev, rv⟩ := r.get hy
  obtain ⟨w, ew, rw'⟩ := r'.get hz
  refine ⟨⟨vs, ws, v, w, h2, h2', ev, ew⟩, fun u H3 ⟨T, x', y', eu, hT, e3, q, q'⟩ env σ G S => ?_⟩
  have := q vs h2
  rw [ev] at this
  cases this
  have := q' ws h2'
  rw [ew] at this
  cases this
  subst e3 eu
  exact lay_pair hT S (rv.mono x) (rw'.mono x)
theorem repK_get : ∀ {ps : List (Key × V)} {kvs : List (D × D)} {i : Nat} {kv : D × D}, M.RepK F ps kvs → kvs[i]? = some kv → ∃ kk v, ps[i]? = some (kk, v) ∧ kv.1 = keyD kk ∧ M.Rep F v kv.2
  | _, _, _, _, .nil, h => by simp at h
  | _, _, 0, _, .cons r rs, h => by simp at h; subst h; exact ⟨_, _, rfl, rfl, r⟩
  | _, _, i + 1, _, .cons r rs, h => by simp at h; simpa using repK_get rs h
theorem walk_keys {d : Addr} {o : Obj} {ps : List (Key × V)} {kvs : List (D × D)} (h : F d = some (.frz o (.dK ps))) (r : M.RepK F ps kvs) : Walk M F (Itk d o ps) (kvs.map (·.1)) := fun F2 H2 x x2 => by
  have h2 := x2.frz _ _ _ (x.frz _ _ _ h)
  refine ⟨fun i dd e => ?_, h2, by rw [List.length_map, r.length]; exact Nat.le_refl _⟩
  rw [List.getElem?_map] at e
  cases hk : kvs[i]? with
  | none => rw [hk] at e; cases e
  | some kv =>
    rw [hk] at e
    cases e
    obtain ⟨kk, v, e1, e2, rv⟩ := repK_get r hk
    refine ⟨⟨h2, (List.getElem?_eq_some_iff.mp e1).1⟩, fun w H3 ⟨e3, k', v', e4, ew⟩ env σ G S => ?_⟩
    rw [e1] at e4
    cases e4
    subst e3 ew
    refine ⟨F2, Ex.refl _, S, ?_⟩
    show M.Rep F2 (kV kk) kv.1
    rw [e2]
    exact rep_key kk
theorem walk_vals {d : Addr} {o : Obj} {ps : List (Key × V)} {kvs : List (D × D)} (h : F d = some (.frz o (.dK ps))) (r : M.RepK F ps kvs) : Walk M F (Itd d o ps) (kvs.map (·.2)) := fun F2 H2 x x2 => by
  have h2 := x2.frz _ _ _ (x.frz _ _ _ h)
  refine ⟨fun i dd e => ?_, h2, by rw [List.length_map, r.length]; exact Nat.le_refl _⟩
  rw [List.getElem?_map] at e
  cases hk : kvs[i]? with
  | none => rw [hk] at e; cases e
  | some kv =>
    rw [hk] at e
    cases e
    obtain ⟨kk, v, e1, e2, rv⟩ := repK_get r hk
    refine ⟨⟨h2, (List.getElem?_eq_some_iff.mp e1).1⟩, fun w H3 ⟨e3, k', e4⟩ env σ G S => ?_⟩
    rw [e1] at e4
    cases e4
    subst e3
    exact ⟨F2, Ex.refl _, S, rv.mono x⟩
theorem walk_items {d : Addr} {o : Obj} {ps : List (Key × V)} {kvs : List (D × D)} (h : F d = some (.frz o (.dK ps))) (r : M.RepK F ps kvs) : Walk M F (Iti d o ps) (kvs.map fun kv => .tup [kv.1, kv.2]) := fun F2 H2 x x2 => by
  have h2 := x2.frz _ _ _ (x.frz _ _ _ h)
  refine ⟨fun i dd e => ?_, h2, by rw [List.length_map, r.length]; exact Nat.le_refl _⟩
  rw [List.getElem?_map] at e
  cases hk : kvs[i]? with
  | none => rw [hk] at e; cases e
  | some kv =>
    rw [hk] at e
    cases e
    obtain ⟨kk, v, e1, e2, rv⟩ := repK_get r hk
    refine ⟨⟨h2, (List.getElem?_eq_some_iff.mp e1).1⟩, fun w H3 ⟨T, k', v', e4, ew, hT, e3⟩ env σ G S => ?_⟩
    rw [e1] at e4
    cases e4
    subst e3 ew
    refine lay_pair hT S ?_ (rv.mono x)
    rw [e2]
    exact rep_key kk

/-! ### the sources -/
theorem evEs_one (env : Env) (hi : ∀ e', ie ≠ .star e') : evEs M.T (callF M.T k) lk [ie] env = ((evE M.T (callF M.T k) lk ie env).bind fun p => .ok ([p.1], p.2)) := by
  rw [evEs_cons hi]
  cases evE M.T (callF M.T k) lk ie env <;> rfl
theorem evI_one (env : Env) (hi : ∀ e', ie ≠ .star e') (kk : IK) : evI M k lk kk [ie] env = ((evE M.T (callF M.T k) lk ie env).bind fun p => if isOwn p.1 then .no else (R.of (itD kk [p.1])).bind fun xs => .ok (xs, p.2)) := by
  unfold evI
  rw [evEs_one env hi]
  cases evE M.T (callF M.T k) lk ie env with
  | ok p => simp only [R.bind_ok, List.any_cons, List.any_nil, Bool.or_false]
  | ex _ _ _ => rfl
  | no => rfl
theorem sI_seq (hi : ∀ e', ie ≠ .star e') (he : SE M k p lk e ie) : SI M k p lk tg e .seq [ie] := by
  intro X W g env σ F G H RR S hp
  rw [evI_one env hi] at hp
  cases hr : evE M.T (callF M.T k) lk ie env with
  | no => rw [hr] at hp; exact hp.elim
  | ex c fs ev =>
    rw [hr] at hp
    refine sI_of (pi_list (peS X e)) (he X W g env σ F G H _ S ?_)
    rw [hr]; exact hp
  | ok q =>
    rw [hr] at hp
    simp only [R.bind_ok] at hp
    obtain ⟨hn, hp1⟩ := hp.ite
    obtain ⟨xs, hx, hp2⟩ := hp1.of
    cases hd : q.1 with
    | lst ys =>
      rw [hd] at hx
      cases hx
      refine sI_of (pi_list (peS X e)) (he X W g env σ F G H _ S ?_)
      rw [hr]
      intro F1 H1 x1 S1 v r
      rw [hd] at r
      cases (show Rep M.cl M.K F1 v (.lst xs) from r) with
      | lst h1 h2 =>
        refine ⟨_, rfl, ⟨_, by rw [g.K]; exact S1.fh.sqL h1⟩, ?_⟩
        rw [g.K]
        exact hp2 F1 H1 x1 S1 _ (walk_lst h1 h2)
    | tup ys =>
      rw [hd] at hx
      cases hx
      refine sI_of (pi_tup (peS X e)) (he X W g env σ F G H _ S ?_)
      rw [hr]
      intro F1 H1 x1 S1 v r
      rw [hd] at r
      cases (show Rep M.cl M.K F1 v (.tup xs) from r) with
      | tup h1 h2 =>
        refine ⟨_, rfl, ⟨_, by rw [g.K]; exact S1.fh.sqT h1⟩, ?_⟩
        rw [g.K]
        exact hp2 F1 H1 x1 S1 _ (walk_tup h1 h2)
    | str s =>
      rw [hd] at hx
      cases hx
      refine sI_of (pi_str (peS X e)) (he X W g env σ F G H _ S ?_)
      rw [hr]
      intro F1 H1 x1 S1 v r
      rw [hd] at r
      cases (show Rep M.cl M.K F1 v (.str s) from r)
      exact ⟨s, rfl, hp2 F1 H1 x1 S1 _ (walk_str s)⟩
    | dct kvs =>
      rw [hd] at hx
      cases hx
      refine sI_of (pi_keys (peS X e)) (he X W g env σ F G H _ S ?_)
      rw [hr]
      intro F1 H1 x1 S1 v r
      rw [hd] at r
      cases (show Rep M.cl M.K F1 v (.dct kvs) from r) with
      | dct h1 h2 => exact ⟨_, _, rfl, .inl ⟨_, S1.fh.frz _ _ _ h1, hp2 F1 H1 x1 S1 _ (walk_keys h1 h2)⟩⟩
    | _ => rw [hd] at hx; cases hx
theorem sI_items {apos cpos : Pos} {elts : List Expr} {kk : Nat} {tpos : Pos} (hi : ∀ e', ie ≠ .star e') (he : SE M k p lk e ie) (hb : ∀ env w, attributeBase e "items" env w = w) (hl : (apos.endLine == cpos.line) = true) : SI M k p lk (.Tuple elts kk tpos) (.Call (.Attribute e "items" apos) [] [] cpos) .items [ie] := by
  intro X W g env σ F G H RR S hp
  rw [evI_one env hi] at hp
  refine sI_of (pi_items (peS X e) (hb _ _) hl) (he X W g env σ F G H _ S ?_)
  refine hp.bind fun d env1 F1 H1 e1 x1 S1 hp1 v r => ?_
  obtain ⟨hn, hp2⟩ := hp1.ite
  obtain ⟨xs, hx, hp3⟩ := hp2.of
  cases d with
  | dct kvs =>
    cases hx
    cases (show Rep M.cl M.K F1 v (.dct kvs) from r) with
    | dct h1 h2 => exact ⟨_, _, _, rfl, S1.fh.frz _ _ _ h1, hp3 F1 H1 (Ex.refl _) S1 _ (walk_items h1 h2)⟩
  | _ => cases hx
theorem sI_vals {apos cpos : Pos} (hi : ∀ e', ie ≠ .star e') (he : SE M k p lk e ie) (hb : ∀ env w, attributeBase e "values" env w = w) (hl : (apos.endLine == cpos.line) = true) : SI M k p lk tg (.Call (.Attribute e "values" apos) [] [] cpos) .vals [ie] := by
  intro X W g env σ F G H RR S hp
  rw [evI_one env hi] at hp
  refine sI_of (pi_values (peS X e) (hb _ _) hl) (he X W g env σ F G H _ S ?_)
  refine hp.bind fun d env1 F1 H1 e1 x1 S1 hp1 v r => ?_
  obtain ⟨hn, hp2⟩ := hp1.ite
  obtain ⟨xs, hx, hp3⟩ := hp2.of
  cases d with
  | dct kvs =>
    cases hx
    cases (show Rep M.cl M.K F1 v (.dct kvs) from r) with
    | dct h1 h2 => exact ⟨_, _, _, rfl, S1.fh.frz _ _ _ h1, hp3 F1 H1 (Ex.refl _) S1 _ (walk_vals h1 h2)⟩
  | _ => cases hx
theorem inRange_ok {i : Int} (h : inRange i = true) : -(2 ^ 62) ≤ i ∧ i < 2 ^ 62 := by
  unfold inRange at h
  simp only [Bool.and_eq_true, decide_eq_true_eq] at h
  exact h
theorem evEs_len : ∀ {ies : List IE} {env : Env} {ds : List D} {env' : Env}, (∀ ie ∈ ies, ∀ e', ie ≠ .star e') → evEs M.T (callF M.T k) lk ies env = .ok (ds, env') → ds.length = ies.length
  | [], env, ds, env', _, h => by rw [evEs] at h; cases h; rfl
  | ie :: ies, env, ds, env', hs, h => by
    rw [evEs_cons (hs ie List.mem_cons_self)] at h
    cases h1 : evE M.T (callF M.T k) lk ie env with
    | no => rw [h1] at h; cases h
    | ex _ _ _ => rw [h1] at h; cases h
    | ok q =>
      rw [h1] at h
      simp only [R.bind_ok] at h
      cases h2 : evEs M.T (callF M.T k) lk ies q.2 with
      | no => rw [h2] at h; cases h
      | ex _ _ _ => rw [h2] at h; cases h
      | ok q2 =>
        rw [h2] at h
        cases h
        simp [evEs_len (fun ie h => hs ie (List.mem_cons_of_mem _ h)) h2]
theorem sI_rng1 (mo : MOk M) {pf cpos : Pos} (hg : glb p "range" = true) (hs : notStar e = true) (hi : ∀ e', ie ≠ .star e') (hr : SA M k p lk [e] [ie]) : SI M k p lk tg (.Call (.Name "range" pf) [e] [] cpos) .rng [ie] := by
  intro X W g env σ F G H RR S hp
  refine sI_of (pi_range1 (gl_of g hg) (by rw [g.mg]; exact mo.blt _ (by decide +kernel)) (paS X [e]) (by rw [starEach_cons hs]; rfl)) (hr X W g env σ F G H _ S ?_)
  refine hp.bind fun ds env1 F1 H1 e1 x1 S1 hp1 vs rs => ?_
  obtain ⟨hn, hp2⟩ := hp1.ite
  obtain ⟨xs, hx, hp3⟩ := hp2.of
  have rr := paired_reps rs hn
  have hx : itRng ds = some xs := hx
  unfold itRng at hx
  split at hx
  · split at hx
    · rename_i hj
      cases hx
      cases rr with
      | cons r rs' =>
        cases r
        cases rs'
        obtain ⟨q1, q2⟩ := inRange_ok hj
        exact ⟨_, rfl, q1, q2, hp3 F1 H1 (Ex.refl _) S1 _ (walk_rng 0 _)⟩
    · cases hx
  · have hl := evEs_len (fun x hx => by rw [List.mem_singleton.mp hx]; exact hi) e1
    cases hl
  · cases hx
theorem sI_rng2 (mo : MOk M) {pf cpos : Pos} (hg : glb p "range" = true) (hs : notStar a = true) (hs' : notStar b = true) (hi : ∀ e', ia ≠ .star e') (hi' : ∀ e', ib ≠ .star e') (hr : SA M k p lk [a, b] [ia, ib]) : SI M k p lk tg (.Call (.Name "range" pf) [a, b] [] cpos) .rng [ia, ib] := by
  intro X W g env σ F G H RR S hp
  refine sI_of (pi_range2 (gl_of g hg) (by rw [g.mg]; exact mo.blt _ (by decide +kernel)) (paS X [a, b]) (by rw [starEach_cons hs, starEach_cons hs']; rfl) (by rw [starEach_cons hs']; rfl)) (hr X W g env σ F G H _ S ?_)
  refine hp.bind fun ds env1 F1 H1 e1 x1 S1 hp1 vs rs => ?_
  obtain ⟨hn, hp2⟩ := hp1.ite
  obtain ⟨xs, hx, hp3⟩ := hp2.of
  have rr := paired_reps rs hn
  have hx : itRng ds = some xs := hx
  unfold itRng at hx
  split at hx
  · have hl := evEs_len (fun x hx => by
      rcases List.mem_cons.mp hx with rfl | hx
      · exact hi
      · rw [List.mem_singleton.mp hx]; exact hi') e1
    cases hl
  · split at hx
    · rename_i hj
      cases hx
      rw [Bool.and_eq_true] at hj
      cases rr with
      | cons r rs' =>
        cases rs' with
        | cons r' rs'' =>
          cases r
          cases r'
          cases rs''
          obtain ⟨q1, q2⟩ := inRange_ok hj.1
          obtain ⟨q3, q4⟩ := inRange_ok hj.2
          exact ⟨_, _, rfl, ⟨q1, q2, q3, q4⟩, hp3 F1 H1 (Ex.refl _) S1 _ (walk_rng _ _)⟩
    · cases hx
  · cases hx
theorem sI_enum (mo : MOk M) {pf cpos : Pos} {elts : List Expr} {kk : Nat} {tpos : Pos} (hg : glb p "enumerate" = true) (hs : notStar e = true) (hr : SA M k p lk [e] [ie]) : SI M k p lk (.Tuple elts kk tpos) (.Call (.Name "enumerate" pf) [e] [] cpos) .enum [ie] := by
  intro X W g env σ F G H RR S hp
  refine sI_of (pi_enum (gl_of g hg) (by rw [g.mg]; exact mo.blt _ (by decide +kernel)) (paS X [e]) (by rw [starEach_cons hs]; rfl)) (hr X W g env σ F G H _ S ?_)
  refine hp.bind fun ds env1 F1 H1 e1 x1 S1 hp1 vs rs => ?_
  obtain ⟨hn, hp2⟩ := hp1.ite
  obtain ⟨xs, hx, hp3⟩ := hp2.of
  have rr := paired_reps rs hn
  have hx : itEnum ds = some xs := hx
  unfold itEnum at hx
  split at hx
  · cases hx
    cases rr with
    | cons r rs' =>
      cases rs'
      cases r with
      | lst h1 h2 =>
        refine ⟨_, _, rfl, by rw [g.K]; exact S1.fh.sqL h1, ?_⟩
        rw [g.K]
        exact hp3 F1 H1 (Ex.refl _) S1 _ (walk_enum h1 h2)
  · cases hx
theorem sI_zip (mo : MOk M) {pf cpos : Pos} {elts : List Expr} {kk : Nat} {tpos : Pos} (hg : glb p "zip" = true) (hs : notStar a = true) (hs' : notStar b = true) (hr : SA M k p lk [a, b] [ia, ib]) : SI M k p lk (.Tuple elts kk tpos) (.Call (.Name "zip" pf) [a, b] [] cpos) .zip [ia, ib] := by
  intro X W g env σ F G H RR S hp
  refine sI_of (RZ.pi_zipA (gl_of g hg) (by rw [g.mg]; exact mo.blt _ (by decide +kernel)) (paS X [a, b]) (starEach_cons hs _ X.env) (by rw [starEach_cons hs']; rfl)) (hr X W g env σ F G H _ S ?_)
  refine hp.bind fun ds env1 F1 H1 e1 x1 S1 hp1 vs rs => ?_
  obtain ⟨hn, hp2⟩ := hp1.ite
  obtain ⟨xs, hx, hp3⟩ := hp2.of
  have rr := paired_reps rs hn
  have hx : itZip ds = some xs := hx
  unfold itZip at hx
  split at hx
  · cases hx
    cases rr with
    | cons r rs' =>
      cases rs' with
      | cons r' rs'' =>
        cases rs''
        cases r with
        | lst h1 h2 =>
          cases r' with
          | lst h3 h4 =>
            refine ⟨_, _, _, _, rfl, .inl ⟨by rw [g.K]; exact S1.fh.sqL h1, by rw [g.K]; exact S1.fh.sqL h3, ?_⟩⟩
            rw [g.K]
            exact hp3 F1 H1 (Ex.refl _) S1 _ (walk_zipL h1 h2 h3 h4)
  · cases hx
    cases rr with
    | cons r rs' =>
      cases rs' with
      | cons r' rs'' =>
        cases rs''
        cases r with
        | tup h1 h2 =>
          cases r' with
          | tup h3 h4 =>
            refine ⟨_, _, _, _, rfl, .inr ⟨by rw [g.K]; exact S1.fh.sqT h1, by rw [g.K]; exact S1.fh.sqT h3, ?_⟩⟩
            rw [g.K]
            exact hp3 F1 H1 (Ex.refl _) S1 _ (walk_zipT h1 h2 h3 h4)
  · cases hx
end
end IV

set_option linter.all false
set_option Elab.async false
set_option maxRecDepth 100000
set_option maxHeartbeats 4000000
/-! IVa: list comprehensions (own work). -/
namespace IV
open PySem L2 PySem.Spec PyProof.Rows

section
variable {M : Mdl} {k : Nat} {p : Plc} {lk : Lk} {X : Cx} {W : WX} {e a b c tg iter : Expr} {ie ia ib ic : IE} {pos : Pos} {F F' G H H' : Hp} {env : Env} {σ : L2.St}

/-- the block of a comprehension -/
def isLoc (scope : Scope) (x : Str) : Bool := match scope.names.lookup x with
  | some .local => true
  | some .cell => true
  | _ => false
def Plc.blk (p : Plc) (scope : Scope) : Plc := ⟨p.N, relS scope p.sc, isLoc scope, false⟩
theorem relS_keep {scope sc : Scope} {x : Str} {kd : NameKind} (hk : kd ≠ .free) (h : scope.names.lookup x = some kd) : (relS scope sc).names.lookup x = some kd := lookup_relS_keep hk h
theorem Good.blk (g : Good M k p W X) (scope : Scope) (s : Shared) (H : Hp) (C : Addr) (cl : List (Str × Addr)) (fp : List Addr) : Good M k (p.blk scope) (fun _ _ _ _ => False) (X.blk s H scope (compEnvC scope cl C X.env) fp) where
  prog := g.prog
  w := g.w
  K := g.K
  mg := g.mg
  base := g.base
  names := g.names
  nd := g.nd
  scope := by
    show relS scope X.env.scope = relS scope p.sc
    rw [g.scope]
  calm := g.calm
  room := g.room
  takes := takes0
  own := PassesOwn.never
  fr := fun z => nomatch z
  loc := fun x h => by
    have h : isLoc scope x = true := h
    unfold isLoc at h
    split at h
    · rename_i e
      exact ⟨.inl (relS_keep (by decide) e), .inr (relS_keep (by decide) e)⟩
    · rename_i e
      refine ⟨.inr (relS_keep (by decide) e), .inl ?_⟩
      show (scope.names.lookup x == some .cell) = true
      rw [e]; rfl
    · cases h

/-! ### slots that are forgotten -/
theorem St_wipe (S : M.St env σ F G H) : ∀ own : List Nat, M.St (wipeE own env) (wipe σ own) F G H
  | [] => S
  | i :: is => St_no (St_wipe S is) i none
theorem wipe_in {σ : L2.St} {i : Nat} : ∀ {vs : List Nat}, i ∈ vs → i < σ.length → (wipe σ vs)[i]? = some none
  | v :: vs, h, hl => by
    unfold wipe
    by_cases e : v = i
    · subst e
      rw [List.getElem?_set_self (by rw [wipe_length]; exact hl)]
    · rw [List.getElem?_set_ne e]
      exact wipe_in ((List.mem_cons.mp h).resolve_left (Ne.symm e)) hl
theorem wipe_same {σ σ' : L2.St} {vs : List Nat} (h : Chg vs σ σ') : wipe σ' vs = wipe σ vs := by
  refine List.ext_getElem? fun i => ?_
  by_cases hi : i ∈ vs
  · by_cases hl : i < σ.length
    · rw [wipe_in hi hl, wipe_in hi (by rw [h.1]; exact hl)]
    · rw [List.getElem?_eq_none (by rw [wipe_length, h.1]; omega), List.getElem?_eq_none (by rw [wipe_length]; omega)]
  · rw [wipe_out hi, wipe_out hi, h.2 i hi]
theorem wipe_wipe {σ : L2.St} (vs : List Nat) : wipe (wipe σ vs) vs = wipe σ vs := wipe_same ⟨wipe_length σ vs, fun j hj => wipe_out hj⟩
theorem Chg.mono {is js : List Nat} {σ σ' : L2.St} (h : Chg is σ σ') (hs : ∀ i ∈ is, i ∈ js) : Chg js σ σ' := ⟨h.1, fun j hj => h.2 j fun hm => hj (hs j hm)⟩
/-- the list that is being made stands aside -/
theorem St_aside (S : M.St env σ F G H) {d : Addr} {o o' : HO} (hF : F d = none) (hG : G d = some o) : M.St env σ F (upd G d o') (upd H d o') := by
  have hno : ∀ i dd, getE env i = .ow dd → σ[i]? = some (some (V.ref d)) → False := fun i dd e ea => by
    have q := S.ent i
    rw [e] at q
    obtain ⟨b, eb, _, gb, _⟩ := q
    rw [ea] at eb
    cases eb
    rw [hG] at gb; cases gb
  refine ⟨⟨fun a u r => ?_, fun a u hu r => ?_, fun a ob u r => ?_⟩, fun a u r => ?_, fun a h => ?_, S.len, fun i => ?_, S.sep⟩
  · have ha : a ≠ d := fun z => by subst z; rcases r with r | ⟨_, r⟩ <;> (rw [hF] at r; cases r)
    rcases S.fh.rd a u r with q | ⟨ob, q⟩
    · exact .inl (by rw [upd_ne ha]; exact q)
    · exact .inr ⟨ob, by rw [upd_ne ha]; exact q⟩
  · have ha : a ≠ d := fun z => by subst z; rw [hF] at r; cases r
    rw [upd_ne ha]; exact S.fh.stb _ _ hu r
  · have ha : a ≠ d := fun z => by subst z; rw [hF] at r; cases r
    rw [upd_ne ha]; exact S.fh.frz _ _ _ r
  · by_cases ha : a = d
    · subst ha; rw [upd_same] at r ⊢; exact r
    · rw [upd_ne ha] at r ⊢; exact S.gh _ _ r
  · by_cases ha : a = d
    · subst ha; exact absurd hF h
    · rw [upd_ne ha]; exact S.fg a h
  · have q := S.ent i
    cases e : getE env i with
    | no => trivial
    | fz dd => rw [e] at q; exact q
    | ow dd =>
      rw [e] at q
      obtain ⟨b, q1, q2, q3, q4⟩ := q
      have hb : b ≠ d := fun z => by subst z; exact hno i dd e q1
      exact ⟨b, q1, q2, by rw [upd_ne hb]; exact q3, q4.at (upd_ne hb)⟩
/-- a new thing is put aside -/
theorem St_put (S : M.St env σ F G H) {d : Addr} {o : HO} (hd : H d = none) : M.St env σ F (upd G d o) (upd H d o) ∧ F d = none ∧ G d = none := by
  obtain ⟨S1, fd, gd, own⟩ := S.new (o := o) hd
  refine ⟨⟨S1.fh, fun a u r => ?_, fun a h => ?_, S1.len, fun i => ?_, S1.sep⟩, fd, gd⟩
  · by_cases ha : a = d
    · subst ha; rw [upd_same] at r ⊢; exact r
    · rw [upd_ne ha] at r; exact S1.gh _ _ r
  · by_cases ha : a = d
    · subst ha; exact absurd fd h
    · rw [upd_ne ha]; exact S1.fg a h
  · have q := S1.ent i
    cases e : getE env i with
    | no => trivial
    | fz dd => rw [e] at q; exact q
    | ow dd =>
      rw [e] at q
      obtain ⟨b, q1, q2, q3, q4⟩ := q
      have hb : b ≠ d := fun z => by subst z; exact own i ⟨⟨dd, e⟩, q1⟩
      exact ⟨b, q1, q2, by rw [upd_ne hb]; exact q3, q4⟩
/-- .. and is taken back -/
theorem St_take {d : Addr} {o : HO} (S : M.St env σ F (upd G d o) H) (gd : G d = none) : M.St env σ F G H ∧ H d = some o ∧ F d = none ∧ ∀ i, ¬ Owns env σ i d := by
  have hd : H d = some o := S.gh _ _ upd_same
  have fd : F d = none := by
    cases q : F d with
    | none => rfl
    | some u => have := S.fg d (by rw [q]; simp); rw [upd_same] at this; cases this
  have no : ∀ i, ¬ Owns env σ i d := fun i ⟨⟨dd, e⟩, ea⟩ => by
    have q := S.ent i
    rw [e] at q
    obtain ⟨b, eb, _, gb, _⟩ := q
    rw [ea] at eb
    cases eb
    rw [upd_same] at gb; cases gb
  have hne : ∀ a, G a ≠ none → a ≠ d := fun a h z => h (by rw [z]; exact gd)
  refine ⟨⟨S.fh, fun a u r => S.gh _ _ (by rw [upd_ne (hne a (by rw [r]; simp))]; exact r), fun a h => ?_, S.len, fun i => ?_, S.sep⟩, hd, fd, no⟩
  · cases q : G a with
    | none => rfl
    | some u => have := S.fg a h; rw [upd_ne (hne a (by rw [q]; simp)), q] at this; cases this
  · have q := S.ent i
    cases e : getE env i with
    | no => trivial
    | fz dd => rw [e] at q; exact q
    | ow dd =>
      rw [e] at q
      obtain ⟨b, q1, q2, q3, q4⟩ := q
      refine ⟨b, q1, q2, ?_, q4⟩
      cases z : G b with
      | none => rfl
      | some u => rw [upd_ne (hne b (by rw [z]; simp)), z] at q3; cases q3
theorem getE_backE_out {old : Env} {i : Nat} : ∀ {own : List Nat} {env : Env}, i ∉ own → getE (backE old own env) i = getE env i
  | [], env, _ => rfl
  | j :: js, env, h => by
    simp only [List.mem_cons, not_or] at h
    unfold backE
    rw [getE_set_ne (Ne.symm h.1)]
    exact getE_backE_out h.2
theorem backE_len {old : Env} : ∀ (own : List Nat) (env : Env), (backE old own env).length = env.length
  | [], _ => rfl
  | j :: js, env => by unfold backE; rw [List.length_set, backE_len js]
theorem getE_backE_in {old : Env} {i : Nat} : ∀ {own : List Nat} {env : Env}, i ∈ own → i < env.length → getE (backE old own env) i = getE old i
  | j :: js, env, h, hl => by
    unfold backE
    by_cases e : j = i
    · subst e
      rw [getE_set_same (by rw [backE_len]; exact hl)]
    · rw [getE_set_ne e]
      exact getE_backE_in ((List.mem_cons.mp h).resolve_left (Ne.symm e)) hl
/-- the block's own names are as they were -/
theorem St_back {env1 : Env} {F1 H1 : Hp} (S : M.St env σ F G H) (x : Ex F F1) {own : List Nat} (hn : noOw env own = true) (S1 : M.St env1 (wipe σ own) F1 G H1) : M.St (backE env own env1) σ F1 G H1 := by
  have hl1 : env1.length = σ.length := by rw [S1.len, wipe_length]
  have inn : ∀ i, i ∈ own → ∀ d, getE env i ≠ .ow d := fun i hi d e => by
    unfold noOw at hn
    have := List.all_eq_true.mp hn i hi
    rw [e] at this; cases this
  have back : ∀ {i : Nat}, i ∈ own → getE (backE env own env1) i = getE env i ∨ getE (backE env own env1) i = .no := fun {i} hi => by
    by_cases hl : i < env1.length
    · exact .inl (getE_backE_in hi hl)
    · refine .inr ?_
      unfold getE List.getD
      rw [List.getElem?_eq_none (by rw [backE_len]; omega)]; rfl
  have out : ∀ {i : Nat} {a : Addr}, Owns (backE env own env1) σ i a → Owns env1 (wipe σ own) i a := fun {i a} ⟨⟨d, e⟩, ea⟩ => by
    by_cases hi : i ∈ own
    · rcases back hi with z | z
      · rw [z] at e; exact absurd e (inn i hi d)
      · rw [z] at e; cases e
    · rw [getE_backE_out hi] at e
      exact ⟨⟨d, e⟩, by rw [wipe_out hi]; exact ea⟩
  refine ⟨S1.fh, S1.gh, S1.fg, by rw [backE_len]; exact hl1, fun i => ?_, fun i j a hij h1 h2 => S1.sep i j a hij (out h1) (out h2)⟩
  by_cases hi : i ∈ own
  · rcases back hi with z | z
    · rw [z]
      have q := S.ent i
      cases e : getE env i with
      | no => trivial
      | fz d => rw [e] at q; obtain ⟨v, q1, q2⟩ := q; exact ⟨v, q1, q2.mono x⟩
      | ow d => exact absurd e (inn i hi d)
    · rw [z]; trivial
  · rw [getE_backE_out hi, ← wipe_out hi]
    exact S1.ent i
theorem owns_back {env1 : Env} {own : List Nat} (hn : noOw env own = true) {i : Nat} {a : Addr} (h : Owns (backE env own env1) σ i a) : Owns env1 (wipe σ own) i a := by
  obtain ⟨⟨d, e⟩, ea⟩ := h
  by_cases hi : i ∈ own
  · by_cases hl : i < env1.length
    · rw [getE_backE_in hi hl] at e
      unfold noOw at hn
      have := List.all_eq_true.mp hn i hi
      rw [e] at this; cases this
    · have : getE (backE env own env1) i = .no := by
        unfold getE List.getD
        rw [List.getElem?_eq_none (by rw [backE_len]; omega)]; rfl
      rw [this] at e; cases e
  · rw [getE_backE_out hi] at e
    exact ⟨⟨d, e⟩, by rw [wipe_out hi]; exact ea⟩

/-- the tests of a clause -/
def sTs (X : Cx) (ifs : List Expr) : TT := fun σ H Q => ∀ (pins : List (Addr × Obj)) (s : Shared), Inv X pins σ H s → wpAny (model X.prog X.w) X.A (forIn ifs true fun c r => if r = true then do let ok ← isTrue c X.env (eval c X.env); pure (ForInStep.yield ok) else pure (ForInStep.yield r)) (TP X pins σ Q) X.xe s
theorem ptsS (X : Cx) (ifs : List Expr) : PTs X ifs (sTs X ifs) := ⟨fun pins s _ _ _ I h => h pins s I⟩
theorem sTs_of {ifs : List Expr} {t : TT} (h : PTs X ifs t) {Q : Bool → Hp → Prop} (q : t σ H Q) : sTs X ifs σ H Q := fun pins s I => h.run pins s σ H Q I q
def STs (M : Mdl) (k : Nat) (p : Plc) (lk : Lk) (ifs : List Expr) (iifs : List IE) : Prop := ∀ (X : Cx) (W : WX), Good M k p W X → ∀ (env : Env) (σ : L2.St) (F G H : Hp) (Q : Bool → Hp → Prop), M.St env σ F G H →
  Post M W σ F G (fun b _ _ H' => Q b H') (evTs M.T (callF M.T k) lk iifs env) → sTs X ifs σ H Q
theorem sTs_nil : STs M k p lk [] [] := by
  intro X W g env σ F G H Q S hp
  rw [evTs] at hp
  exact sTs_of pts_nil (hp F H (Ex.refl _) S)
theorem sTs_one (h : ST M k p lk c ic) : STs M k p lk [c] [ic] := by
  intro X W g env σ F G H Q S hp
  refine sTs_of (pts_one (ptS X c)) (h X W g env σ F G H Q S ?_)
  rw [evTs] at hp
  cases h1 : evE M.T (callF M.T k) lk ic env with
  | no => rw [h1] at hp; exact hp
  | ex _ _ _ => rw [h1] at hp; exact hp
  | ok q =>
    rw [h1] at hp
    simp only [R.bind_ok] at hp ⊢
    cases h2 : truth (res q.2 q.1) with
    | none => rw [h2] at hp; exact hp
    | some b =>
      rw [h2] at hp
      cases b with
      | true => simp only [R.of_some, R.bind_ok, if_true, evTs] at hp; exact hp
      | false => exact hp

/-- one turn of a comprehension -/
def stepC (M : Mdl) (k : Nat) (lk : Lk) (own : List Nat) (t : Tg) (iifs : List IE) (ielt : IE) (x : D) (env1 : Env) : R (List D × Env) :=
  (R.of (tgE lk t x env1)).bind fun env2 => (evTs M.T (callF M.T k) lk iifs env2).bind fun q => if q.1 then (evE M.T (callF M.T k) lk ielt q.2).bind fun r => if isOwn r.1 then .no else .ok ([r.1], wipeE own r.2) else .ok ([], wipeE own q.2)
theorem evE_comp (env : Env) (own : List Nat) (t : Tg) (kk : IK) (ies iifs : List IE) (ielt : IE) : evE M.T (callF M.T k) lk (.comp own t kk ies iifs true ielt) env = ((evI M k lk kk ies env).bind fun p =>
    if noOw p.2 own then (R.noEx (loopC (stepC M k lk own t iifs ielt) p.1 (wipeE own p.2))).bind fun r => if r.1.length ≤ line then .ok (.lst r.1, backE p.2 own r.2) else .no else .no) := by
  rw [evE]
  unfold evI
  cases evEs M.T (callF M.T k) lk ies env with
  | no => rfl
  | ex _ _ _ => rfl
  | ok p =>
    simp only [R.bind_ok]
    cases p.1.any isOwn with
    | true => rfl
    | false =>
      simp only [Bool.false_eq_true, if_false]
      cases itD kk p.1 with
      | none => rfl
      | some xs => rfl
theorem loopC_cons {step : D → Env → R (List D × Env)} {x : D} {xs : List D} {env : Env} {r : List D × Env} (h : loopC step (x :: xs) env = .ok r) : ∃ ys env1 zs, step x env = .ok (ys, env1) ∧ loopC step xs env1 = .ok (zs, r.2) ∧ r.1 = ys ++ zs := by
  unfold loopC at h
  cases h1 : step x env with
  | no => rw [h1] at h; cases h
  | ex _ _ _ => rw [h1] at h; cases h
  | ok q =>
    rw [h1] at h
    simp only [R.bind_ok] at h
    cases h2 : loopC step xs q.2 with
    | no => rw [h2] at h; cases h
    | ex _ _ _ => rw [h2] at h; cases h
    | ok q2 =>
      rw [h2] at h
      cases h
      exact ⟨q.1, q.2, q2.1, rfl, h2, rfl⟩
theorem stepC_ok {own : List Nat} {t : Tg} {iifs : List IE} {ielt : IE} {x : D} {env1 : Env} {ys : List D} {env' : Env} (h : stepC M k lk own t iifs ielt x env1 = .ok (ys, env')) : ∃ env2 b env3, tgE lk t x env1 = some env2 ∧ evTs M.T (callF M.T k) lk iifs env2 = .ok (b, env3) ∧
    ((b = true ∧ ∃ y env4, evE M.T (callF M.T k) lk ielt env3 = .ok (y, env4) ∧ isOwn y = false ∧ ys = [y] ∧ env' = wipeE own env4) ∨ (b = false ∧ ys = [] ∧ env' = wipeE own env3)) := by
  unfold stepC at h
  cases h1 : tgE lk t x env1 with
  | none => rw [h1] at h; cases h
  | some env2 =>
    rw [h1] at h
    simp only [R.of_some, R.bind_ok] at h
    cases h2 : evTs M.T (callF M.T k) lk iifs env2 with
    | no => rw [h2] at h; cases h
    | ex _ _ _ => rw [h2] at h; cases h
    | ok q =>
      rw [h2] at h
      simp only [R.bind_ok] at h
      refine ⟨env2, q.1, q.2, rfl, h2, ?_⟩
      cases hb : q.1 with
      | false =>
        rw [hb] at h
        cases h
        exact .inr ⟨rfl, rfl, rfl⟩
      | true =>
        rw [hb] at h
        simp only [if_true] at h
        cases h3 : evE M.T (callF M.T k) lk ielt q.2 with
        | no => rw [h3] at h; cases h
        | ex _ _ _ => rw [h3] at h; cases h
        | ok r =>
          rw [h3] at h
          simp only [R.bind_ok] at h
          cases hn : isOwn r.1 with
          | true => rw [hn] at h; cases h
          | false =>
            rw [hn] at h
            cases h
            exact .inl ⟨rfl, r.1, r.2, rfl, hn, rfl, rfl⟩
/-- a block's pieces, wherever it runs -/
def gRo (X : Cx) (scope : Scope) (tg : Expr) : TG := fun v σ Hh Q => ∀ (s : Shared) (H : Hp) (C : Addr) (cl : List (Str × Addr)) (fp : List Addr), sG (X.blk s H scope (compEnvC scope cl C X.env) fp) tg v σ Hh Q
def tRo (X : Cx) (scope : Scope) (ifs : List Expr) : TT := fun σ Hh Q => ∀ (s : Shared) (H : Hp) (C : Addr) (cl : List (Str × Addr)) (fp : List Addr), sTs (X.blk s H scope (compEnvC scope cl C X.env) fp) ifs σ Hh Q
def eRo (X : Cx) (scope : Scope) (elt : Expr) : TE := fun σ Hh Q => ∀ (s : Shared) (H : Hp) (C : Addr) (cl : List (Str × Addr)) (fp : List Addr), sE (X.blk s H scope (compEnvC scope cl C X.env) fp) elt σ Hh Q
theorem pg_ro (X : Cx) (scope : Scope) (tg : Expr) (s : Shared) (H : Hp) (C : Addr) (cl : List (Str × Addr)) (fp : List Addr) : PG (X.blk s H scope (compEnvC scope cl C X.env) fp) tg (gRo X scope tg) := ⟨fun pins s' σ Hh v u Q I r h => h s H C cl fp pins s' u I r⟩
theorem pt_ro (X : Cx) (scope : Scope) (ifs : List Expr) (s : Shared) (H : Hp) (C : Addr) (cl : List (Str × Addr)) (fp : List Addr) : PTs (X.blk s H scope (compEnvC scope cl C X.env) fp) ifs (tRo X scope ifs) := ⟨fun pins s' σ Hh Q I h => h s H C cl fp pins s' I⟩
theorem pe_ro (X : Cx) (scope : Scope) (elt : Expr) (s : Shared) (H : Hp) (C : Addr) (cl : List (Str × Addr)) (fp : List Addr) : PE (X.blk s H scope (compEnvC scope cl C X.env) fp) elt (eRo X scope elt) := ⟨fun pins s' σ Hh Q I h => h s H C cl fp pins s' I⟩
theorem comp_read {elt : Expr} {ifs : List Expr} {scope : Scope} {ownS : List (Str × Nat)} {own : List Nat} {t : Tg} {kk : IK} {ies iifs : List IE} {ielt : IE} (hI : SI M k p lk tg iter kk ies) (hb : blkC p.N p.sc scope ownS = true) (ho : own = ownS.map (·.2))
    (hT : chkTg (p.blk scope) t tg = true) (hsub : ∀ i ∈ tgS t, i ∈ own) (hts : STs M k (p.blk scope) lk ifs iifs) (hE : SE M k (p.blk scope) lk elt ielt)
    (g : Good M k p W X) {Q : VK} (S : M.St env σ F G H) (hp : Post M W σ F G (fun d env' F' H' => PN M σ G Q d env' F' H') (evE M.T (callF M.T k) lk (.comp own t kk ies iifs true ielt) env)) :
    tLc (sI X tg iter) (gRo X scope tg) (tRo X scope ifs) (eRo X scope elt) (ownS.map (·.2)) σ H Q := by
  rw [← ho]
  refine hI X W g env σ F G H _ S ?_
  rw [evE_comp] at hp
  refine hp.bind fun xs env1 F1 H1 e1 x1 S1 hp1 J wk D hD => ?_
  by_cases hn : noOw env1 own = true
  · simp only [hn, if_true] at hp1
    cases hl : loopC (stepC M k lk own t iifs ielt) xs (wipeE own env1) with
    | no => simp only [hl, R.noEx, R.bind_no] at hp1; exact hp1.elim
    | ex _ _ _ => simp only [hl, R.noEx, R.bind_no] at hp1; exact hp1.elim
    | ok r =>
      obtain ⟨zs, envN⟩ := r
      simp only [hl, R.noEx, R.bind_ok] at hp1
      by_cases hz : zs.length ≤ line
      · rw [if_pos hz] at hp1
        obtain ⟨S2, fD, gD⟩ := St_put (o := .lst []) (St_wipe S1 own) hD
        let Iv : Nat → Hp → Prop := fun i Hh => ∃ env' F' acc ds rs, Ex F1 F' ∧ M.St env' (wipe σ own) F' (upd G D (.lst acc)) Hh ∧ M.Reps F' acc ds ∧ loopC (stepC M k lk own t iifs ielt) (xs.drop i) env' = .ok (rs, envN) ∧ zs = ds ++ rs
        refine ⟨fun i m Hh => m = xs.length - i ∧ i ≤ xs.length ∧ Iv i Hh, ⟨_, rfl, Nat.zero_le _, wipeE own env1, F1, [], [], zs, Ex.refl _, S2, .nil, by rw [List.drop_zero]; exact hl, rfl⟩, ?_⟩
        rintro i m Hh ⟨rfl, hi, env', F', acc, ds, rs, x', S', ra, hlp, ez⟩
        by_cases hlt : i < xs.length
        · refine .inr ⟨((wk F' Hh x' S'.fh).1 i xs[i] (by simp [hlt])).1, Iv (i + 1), fun H' q => ⟨xs.length - (i + 1), by omega, rfl, hlt, q⟩, fun v H' hy s0 H0 C cl fp => ?_⟩
          obtain ⟨F3, x3, S3, r3⟩ := ((wk F' Hh x' S'.fh).1 i xs[i] (by simp [hlt])).2 v H' hy env' (wipe σ own) _ S'
          rw [List.drop_eq_getElem_cons hlt] at hlp
          obtain ⟨ys, env2, zs', hst, hrest, hrs⟩ := loopC_cons hlp
          have hrs : rs = ys ++ zs' := hrs
          obtain ⟨env3, b, env4, ht3, ht4, hcase⟩ := stepC_ok hst
          refine tgE_ok (g.blk scope s0 H0 C cl fp) hT S3 r3 ht3 fun σ2 S4 chg _ => ?_
          have hw : wipe σ2 own = wipe σ own := by rw [wipe_same (chg.mono hsub), wipe_wipe]
          refine ⟨hw, fun s1 H1' C1 cl1 fp1 => hts (X.blk s1 H1' scope (compEnvC scope cl1 C1 X.env) fp1) _ (g.blk scope s1 H1' C1 cl1 fp1) env3 σ2 F3 (upd G D (.lst acc)) H' _ S4 ?_⟩
          rw [ht4]
          intro F5 H5 x5 S5
          rcases hcase with ⟨rfl, y, env5, he5, hny, rfl, rfl⟩ | ⟨rfl, rfl, rfl⟩
          · show if true = true then _ else _
            rw [if_pos rfl]
            intro s2 H2' C2 cl2 fp2
            refine hE (X.blk s2 H2' scope (compEnvC scope cl2 C2 X.env) fp2) _ (g.blk scope s2 H2' C2 cl2 fp2) env4 σ2 F5 (upd G D (.lst acc)) H5 _ S5 ?_
            rw [he5]
            intro F6 H6 x6 S6 w rw'
            have hacc : acc.length = ds.length := ra.length
            have fD6 : F6 D = none := (St_take S6 gD).2.2.1
            refine ⟨acc, S6.gh _ _ upd_same, ?_, wipeE own env5, F6, acc ++ [w], ds ++ [y], zs', ((x'.trans x3).trans x5).trans x6, ?_, (ra.mono ((x3.trans x5).trans x6)).append (.cons ((rv_of hny).mp rw') .nil), hrest, ?_⟩
            · have : zs.length = ds.length + (1 + zs'.length) := by rw [ez, hrs]; simp; omega
              have hl2 : (line : Nat) = sizeLine := by rw [sizeLine_eq]; rfl
              omega
            · have S7 := St_aside (o' := .lst (acc ++ [w])) (St_wipe S6 own) fD6 upd_same
              rw [upd_upd, hw] at S7
              exact S7
            · rw [ez, hrs, List.append_assoc]
          · show if false = true then _ else _
            rw [if_neg (by decide)]
            refine ⟨wipeE own env4, F5, acc, ds, zs', (x'.trans x3).trans x5, ?_, ra.mono (x3.trans x5), hrest, by rw [ez, hrs, List.nil_append]⟩
            have S7 := St_wipe S5 own
            rw [hw] at S7
            exact S7
        · have e : i = xs.length := by omega
          subst e
          refine .inl ⟨(wk F' Hh x' S'.fh).2, ?_⟩
          rw [List.drop_length] at hlp
          unfold loopC at hlp
          cases hlp
          rw [List.append_nil] at ez
          subst ez
          obtain ⟨S6, hD6, fD6, no⟩ := St_take S' gD
          exact (hp1 F' Hh x' (St_back S1 x' hn S6)).2 rfl D fD6 gD (fun i h => no i (owns_back hn h)) ⟨acc, hD6, ra⟩
      · rw [if_neg hz] at hp1
        exact hp1.elim
  · simp only [hn, if_false] at hp1
    exact hp1.elim
theorem sN_comp {elt : Expr} {ifs : List Expr} {scope : Scope} {ownS : List (Str × Nat)} {own : List Nat} {t : Tg} {kk : IK} {ies iifs : List IE} {ielt : IE} (hI : SI M k p lk tg iter kk ies) (hb : blkC p.N p.sc scope ownS = true) (ho : own = ownS.map (·.2))
    (hT : chkTg (p.blk scope) t tg = true) (hsub : ∀ i ∈ tgS t, i ∈ own) (hts : STs M k (p.blk scope) lk ifs iifs) (hE : SE M k (p.blk scope) lk elt ielt) (hs : ∀ env x, foldedSetIterable iter env x = pure x) :
    SN M k p lk (.ListComp elt [⟨tg, iter, ifs, 0⟩] scope pos) (.comp own t kk ies iifs true ielt) := fun X W g env σ F G H Q S hp =>
  sE_of (pe_lc g.calm (by rw [g.names]; exact g.nd) (piS X tg iter) (by rw [g.names, g.scope]; exact blkOk_by hb) (pg_ro X scope tg) (pt_ro X scope ifs) (pe_ro X scope elt) (hs X.env)) (comp_read hI hb ho hT hsub hts hE g S hp)
end
end IV

set_option linter.all false
set_option Elab.async false
set_option maxRecDepth 100000
set_option maxHeartbeats 4000000
/-! IVb: statements (own work). -/
namespace IV
open PySem L2 PySem.Spec PyProof.Rows

section
variable {M : Mdl} {k : Nat} {p : Plc} {lk : Lk} {fr : Bool} {X : Cx} {W : WX} {e a b c tg iter : Expr} {ie ia ib ic : IE} {pos : Pos} {F F' F1 G H H' : Hp} {env : Env} {σ σ1 : L2.St}

/-- what is handed back -/
def PRt (M : Mdl) (fr : Bool) (G : Hp) (env : Env) (σ : L2.St) (rt : VK) (d : D) (F' H' : Hp) : Prop :=
  if fr then ∀ a, F' a = none → G a = none → (∀ i, ¬ Owns env σ i a) → OwnAt M.cl M.K F' H' a d → rt (.ref a) H' else ∀ v, M.Rep F' v d → rt v H'
def PS_ (M : Mdl) (W : WX) (lk : Lk) (fr : Bool) (σ : L2.St) (F G : Hp) (D : Ends) : R (Fl × Env) → Prop
  | .ok q => ∀ σ' F' H', Ex F F' → M.St q.2 σ' F' G H' → Kept lk σ σ' → (match q.1 with
    | .next => D.nx σ' H'
    | .brk => D.bk σ' H'
    | .cont => D.ct σ' H'
    | .ret d => PRt M fr G q.2 σ' D.rt d F' H')
  | .ex c fs e => ∀ cls dd σ' F' H', Ex F F' → M.St e σ' F' G H' → Kept lk σ σ' → XOk M F' H' cls dd c fs → W cls dd σ' H'
  | .no => False
theorem PS_.grow {D : Ends} {r : R (Fl × Env)} (h : PS_ M W lk fr σ F G D r) (x : Ex F F1) (kp : Kept lk σ σ1) : PS_ M W lk fr σ1 F1 G D r := by
  cases r with
  | ok q => exact fun σ' F' H' x' S kp' => h σ' F' H' (x.trans x') S (kp.trans kp')
  | ex c fs ev => exact fun cls dd σ' F' H' x' S kp' => h cls dd σ' F' H' (x.trans x') S (kp.trans kp')
  | no => exact h
theorem PS_.bindE {α : Type} {D : Ends} {P : α → Env → Hp → Hp → Prop} {r : R (α × Env)} {f : α × Env → R (Fl × Env)} (h : PS_ M W lk fr σ F G D (r.bind f))
    (kk : ∀ a env F1 H1, r = .ok (a, env) → Ex F F1 → M.St env σ F1 G H1 → PS_ M W lk fr σ F1 G D (f (a, env)) → P a env F1 H1) : Post M W σ F G P r := by
  cases r with
  | ok q => exact fun F' H' x S => kk q.1 q.2 F' H' rfl x S (PS_.grow h x Kept.refl)
  | ex c fs ev => exact fun cls dd F' H' x S => h cls dd σ F' H' x S Kept.refl
  | no => exact h
theorem PS_.of {γ : Type} {D : Ends} {o : Option γ} {f : γ → R (Fl × Env)} (h : PS_ M W lk fr σ F G D ((R.of o).bind f)) : ∃ a, o = some a ∧ PS_ M W lk fr σ F G D (f a) := by
  cases o with
  | some a => exact ⟨a, rfl, h⟩
  | none => exact h.elim
theorem PS_.ite {D : Ends} {c : Bool} {r : R (Fl × Env)} (h : PS_ M W lk fr σ F G D (if c = true then .no else r)) : c = false ∧ PS_ M W lk fr σ F G D r := by
  cases c with
  | true => exact h.elim
  | false => exact ⟨rfl, h⟩
def sS (X : Cx) (st : Stmt) : TS := fun D σ H => ∀ (pins : List (Addr × Obj)) (s : Shared), Inv X pins σ H s → wpAny (model X.prog X.w) X.A (exec st X.env) (SP X pins D) X.xe s
def sSs (X : Cx) (st : List Stmt) : TS := fun D σ H => ∀ (pins : List (Addr × Obj)) (s : Shared), Inv X pins σ H s → wpAny (model X.prog X.w) X.A (execs st X.env) (SP X pins D) X.xe s
theorem psS (X : Cx) (st : Stmt) : PS X st (sS X st) := ⟨fun pins s _ _ _ I h => h pins s I⟩
theorem pssS (X : Cx) (st : List Stmt) : PSs X st (sSs X st) := ⟨fun pins s _ _ _ I h => h pins s I⟩
theorem sS_of {st : Stmt} {t : TS} (h : PS X st t) {D : Ends} (q : t D σ H) : sS X st D σ H := fun pins s I => h.run pins s σ H D I q
theorem sSs_of {st : List Stmt} {t : TS} (h : PSs X st t) {D : Ends} (q : t D σ H) : sSs X st D σ H := fun pins s I => h.run pins s σ H D I q
def SS (M : Mdl) (k : Nat) (p : Plc) (lk : Lk) (fr : Bool) (st : Stmt) (is : IS) : Prop := ∀ (X : Cx) (W : WX), Good M k p W X → ∀ (env : Env) (σ : L2.St) (F G H : Hp) (D : Ends), M.St env σ F G H →
  PS_ M W lk fr σ F G D (evS M.T (callF M.T k) lk is env) → sS X st D σ H
def SSs (M : Mdl) (k : Nat) (p : Plc) (lk : Lk) (fr : Bool) (st : List Stmt) (is : List IS) : Prop := ∀ (X : Cx) (W : WX), Good M k p W X → ∀ (env : Env) (σ : L2.St) (F G H : Hp) (D : Ends), M.St env σ F G H →
  PS_ M W lk fr σ F G D (evSs M.T (callF M.T k) lk is env) → sSs X st D σ H

theorem ss_nil : SSs M k p lk fr [] [] := by
  intro X W g env σ F G H D S hp
  rw [evSs] at hp
  exact sSs_of pss_nil (hp σ F H (Ex.refl _) S Kept.refl)
theorem ss_cons {st : Stmt} {sts : List Stmt} {i : IS} {is : List IS} (h1 : SS M k p lk fr st i) (h2 : SSs M k p lk fr sts is) : SSs M k p lk fr (st :: sts) (i :: is) := by
  intro X W g env σ F G H D S hp
  refine sSs_of (pss_cons (psS X st) (pssS X sts)) (h1 X W g env σ F G H _ S ?_)
  rw [evSs] at hp
  cases hr : evS M.T (callF M.T k) lk i env with
  | no => rw [hr] at hp; exact hp
  | ex _ _ _ => rw [hr] at hp; exact hp
  | ok q =>
    rw [hr] at hp
    simp only [R.bind_ok] at hp
    intro σ' F' H' x S' kp
    cases hf : q.1 with
    | next =>
      rw [hf] at hp
      exact h2 X W g q.2 σ' F' G H' D S' (PS_.grow hp x kp)
    | brk => rw [hf] at hp; exact hp σ' F' H' x S' kp
    | cont => rw [hf] at hp; exact hp σ' F' H' x S' kp
    | ret d => rw [hf] at hp; exact hp σ' F' H' x S' kp
theorem ss_pass : SS M k p lk fr (.Pass pos) .pass := by
  intro X W g env σ F G H D S hp
  rw [evS] at hp
  exact sS_of ps_pass (hp σ F H (Ex.refl _) S Kept.refl)
theorem ss_brk : SS M k p lk fr (.Break pos) .brk := by
  intro X W g env σ F G H D S hp
  rw [evS] at hp
  exact sS_of ps_break (hp σ F H (Ex.refl _) S Kept.refl)
theorem ss_cont : SS M k p lk fr (.Continue pos) .cont := by
  intro X W g env σ F G H D S hp
  rw [evS] at hp
  exact sS_of ps_continue (hp σ F H (Ex.refl _) S Kept.refl)
/-- no comprehension -/
def noComp : Expr → Bool
  | .ListComp _ _ _ _ => false
  | .SetComp _ _ _ _ => false
  | .DictComp _ _ _ _ _ => false
  | _ => true
theorem noSwap {e : Expr} (h : noComp e = true) (t : Option Expr) (l : Nat) (env : PySem.Env) : swapsWith e t l env = pure false := by
  cases e <;> first | rfl | cases h
theorem noSwapS {tg e : Expr} {l : Nat} {env : PySem.Env} (h : noComp e = true) : swapsWithSole [tg] e l env = pure false := noSwap h _ _ _
theorem ss_expr (hc : noComp e = true) (he : SE M k p lk e ie) : SS M k p lk fr (.Expr e pos) (.expr ie) := by
  intro X W g env σ F G H D S hp
  rw [evS] at hp
  refine sS_of (ps_expr (peS X e) (noSwap hc _ _ _)) (he X W g env σ F G H _ S (hp.bindE fun d env1 F1 H1 e1 x1 S1 hp1 v r => ?_))
  exact hp1 σ F1 H1 (Ex.refl _) S1 Kept.refl
theorem ss_ret (he : SE M k p lk e ie) (hf : fr = false) : SS M k p lk fr (.Return (some e) pos) (.ret ie) := by
  intro X W g env σ F G H D S hp
  rw [evS] at hp
  refine sS_of (ps_ret (peS X e)) (he X W g env σ F G H _ S (hp.bindE fun d env1 F1 H1 e1 x1 S1 hp1 v r => ?_))
  obtain ⟨hn, hp2⟩ := hp1.ite
  have q := hp2 σ F1 H1 (Ex.refl _) S1 Kept.refl
  subst hf
  exact q v ((rv_of hn).mp r)
theorem ss_retN (he : SN M k p lk e ie) (hf : fr = true) : SS M k p lk fr (.Return (some e) pos) (.retN ie) := by
  intro X W g env σ F G H D S hp
  rw [evS] at hp
  by_cases hnew : newE M.T ie = true
  · rw [if_pos hnew] at hp
    refine sS_of (ps_ret (peS X e)) (he X W g env σ F G H _ S (hp.bindE fun d env1 F1 H1 e1 x1 S1 hp1 => ?_))
    by_cases ho : isObj d = true
    · simp only [ho, if_true] at hp1
      have q := hp1 σ F1 H1 (Ex.refl _) S1 Kept.refl
      subst hf
      exact ⟨fun z => (by rw [ho] at z; cases z), fun _ a fa ga no oa => q a fa ga no oa⟩
    · simp only [ho, if_false] at hp1
      exact hp1.elim
  · rw [if_neg hnew] at hp
    exact hp.elim
theorem ss_retO {i : Nat} {x : Str} {pn : Pos} (hs : seen p i x = true) (hf : fr = true) : SS M k p lk fr (.Return (some (.Name x pn)) pos) (.retO i) := by
  intro X W g env σ F G H D S hp
  rw [evS] at hp
  have q := S.ent i
  cases e : getE env i with
  | ow d =>
    rw [e] at hp q
    obtain ⟨a, ea, fa, ga, oa⟩ := q
    simp only at hp
    obtain ⟨hl, hp⟩ := hp.ite
    have S2 := St_no S i (some (.ref a))
    have eσ : σ.set i (some (V.ref a)) = σ := by
      refine List.ext_getElem? fun j => ?_
      by_cases hj : i = j
      · subst hj
        rw [List.getElem?_set_self (List.getElem?_eq_some_iff.mp ea).1, ea]
      · rw [List.getElem?_set_ne hj]
    rw [eσ] at S2
    have q := hp σ F H (Ex.refl _) S2 Kept.refl
    subst hf
    refine sS_of (ps_ret (pv_of g hs)) ⟨_, ea, q a fa ga (fun j ⟨⟨dd, hj⟩, hv⟩ => ?_) oa⟩
    have hi : i < env.length := getE_len ⟨d, e⟩
    by_cases hij : i = j
    · subst hij
      rw [getE_set_same hi] at hj; cases hj
    · rw [getE_set_ne hij] at hj
      exact S.sep i j a hij ⟨⟨d, e⟩, ea⟩ ⟨⟨dd, hj⟩, hv⟩
  | no => rw [e] at hp; exact hp.elim
  | fz d => rw [e] at hp; exact hp.elim
theorem ss_if {t : Expr} {it : IE} {sa sb : List Stmt} {ia ib : List IS} (ht : ST M k p lk t it) (ha : SSs M k p lk fr sa ia) (hb : SSs M k p lk fr sb ib) : SS M k p lk fr (.If t sa sb pos) (.ifs it ia ib) := by
  intro X W g env σ F G H D S hp
  rw [evS] at hp
  refine sS_of (ps_if (ptS X t) (pssS X sa) (pssS X sb)) (ht X W g env σ F G H _ S ?_)
  cases h1 : evE M.T (callF M.T k) lk it env with
  | no => rw [h1] at hp; exact hp
  | ex _ _ _ => rw [h1] at hp; exact fun cls dd F' H' x S => hp cls dd σ F' H' x S Kept.refl
  | ok q =>
    rw [h1] at hp
    simp only [R.bind_ok] at hp ⊢
    cases h2 : truth (res q.2 q.1) with
    | none => rw [h2] at hp; exact hp
    | some c =>
      rw [h2] at hp
      intro F1 H1 x1 S1
      cases c with
      | true => exact ha X W g q.2 σ F1 G H1 D S1 (PS_.grow hp x1 Kept.refl)
      | false => exact hb X W g q.2 σ F1 G H1 D S1 (PS_.grow hp x1 Kept.refl)
/-- x = e -/
theorem ss_asg {i : Nat} {x : Str} {pn : Pos} (hb : binds p i x = true) (hc : noComp e = true) (he : SE M k p lk e ie) : SS M k p lk fr (.Assign [.Name x pn] e pos) (.asg i ie) := by
  intro X W g env σ F G H D S hp
  rw [evS] at hp
  refine sS_of (ps_asg (peS X e) (pgn_of g hb) (noSwapS hc)) (he X W g env σ F G H _ S (hp.bindE fun d env1 F1 H1 e1 x1 S1 hp1 v r => ?_))
  obtain ⟨hn, hp2⟩ := hp1.ite
  obtain ⟨env2, hs, hp3⟩ := hp2.of
  obtain ⟨hl, hi, rfl⟩ := setE_some hs
  exact hp3 _ F1 H1 (Ex.refl _) (St_set_fz S1 hi ((rv_of hn).mp r)) (kept_set hl)
theorem ss_own {i : Nat} {x : Str} {pn : Pos} (hb : binds p i x = true) (hc : noComp e = true) (he : SN M k p lk e ie) : SS M k p lk fr (.Assign [.Name x pn] e pos) (.own i ie) := by
  intro X W g env σ F G H D S hp
  rw [evS] at hp
  by_cases hnew : newE M.T ie = true
  · rw [if_pos hnew] at hp
    refine sS_of (ps_asg (peS X e) (pgn_of g hb) (noSwapS hc)) (he X W g env σ F G H _ S (hp.bindE fun d env1 F1 H1 e1 x1 S1 hp1 => ?_))
    by_cases ho : isObj d = true
    · simp only [ho, if_true] at hp1
      obtain ⟨env2, hs, hp3⟩ := hp1.of
      obtain ⟨hl, hi, rfl⟩ := setE_some hs
      exact ⟨fun z => (by rw [ho] at z; cases z), fun _ a fa ga no oa => hp3 _ F1 H1 (Ex.refl _) (St_set_ow S1 hi fa ga no oa) (kept_set hl)⟩
    · simp only [ho, if_false] at hp1
      exact hp1.elim
  · rw [if_neg hnew] at hp
    exact hp.elim
/-- a, b = e -/
def notTup : Expr → Bool
  | .Tuple _ _ _ => false
  | _ => true
theorem ss_unp {is : List Nat} (hT : chkT p is tg = true) (hc : noComp e = true) (hnt : notTup e = true) (he : SE M k p lk e ie) : SS M k p lk fr (.Assign [tg] e pos) (.unp is ie) := by
  intro X W g env σ F G H D S hp
  rw [evS] at hp
  have hw : swappedStores [tg] e X.env = pure none := by
    unfold chkT at hT
    split at hT
    · cases e <;> first | rfl | cases hnt
    · cases hT
  have h1 : (assignEach [tg] X.env).map (·.2) = [assign tg X.env] := by
    unfold chkT at hT
    split at hT
    · rfl
    · cases hT
  refine sS_of (ps_asg (peS X e) (pgS X tg) (noSwapS hc) hw h1) (he X W g env σ F G H _ S (hp.bindE fun d env1 F1 H1 e1 x1 S1 hp1 v r => ?_))
  obtain ⟨env2, hs, hp3⟩ := hp1.of
  have hn : isOwn d = false := by
    cases d with
    | own j => simp only [tgE] at hs; cases hs
    | _ => rfl
  exact tgE_ok (t := .t is) g hT S1 ((rv_of hn).mp r) hs fun σ' S' chg hl => hp3 σ' F1 H1 (Ex.refl _) S' (chg.kept hl)
/-- a name's object is let go -/
theorem ss_fz {st : Stmt} {i : Nat} {is : IS} (h : SS M k p lk fr st is) : SS M k p lk fr st (.fz i is) := by
  intro X W g env σ F G H D S hp
  rw [evS] at hp
  have q := S.ent i
  cases e : getE env i with
  | ow d =>
    rw [e] at hp q
    obtain ⟨a, ea, fa, ga, oa⟩ := q
    simp only at hp
    obtain ⟨hl, hp⟩ := hp.ite
    have hi : i < env.length := getE_len ⟨d, e⟩
    have eσ : ∀ {v : V}, σ[i]? = some (some v) → σ.set i (some v) = σ := fun {v} ea => by
      refine List.ext_getElem? fun j => ?_
      by_cases hj : i = j
      · subst hj
        rw [List.getElem?_set_self (List.getElem?_eq_some_iff.mp ea).1, ea]
      · rw [List.getElem?_set_ne hj]
    have S2 := St_no S i (some (.ref a))
    rw [eσ ea] at S2
    have no : ∀ j, ¬ Owns (env.set i .no) σ j a := fun j ⟨⟨dd, hj⟩, hv⟩ => by
      by_cases hij : i = j
      · subst hij
        rw [getE_set_same hi] at hj; cases hj
      · rw [getE_set_ne hij] at hj
        exact S.sep i j a hij ⟨⟨d, e⟩, ea⟩ ⟨⟨dd, hj⟩, hv⟩
    have fin : ∀ {F' H' : Hp}, Ex F F' → M.St (env.set i .no) σ F' G H' → M.Rep F' (.ref a) d → sS X st D σ H' := fun {F' H'} x S3 r => by
      have S4 := St_set_fz (i := i) (d := d) S3 (by simpa using hi) r
      rw [eσ ea, List.set_set] at S4
      exact h X W g _ σ F' G H' D S4 (PS_.grow hp x Kept.refl)
    cases hd : isDct d with
    | false =>
      obtain ⟨F', x, S3, r⟩ := S2.freeze fa ga no oa hd
      exact fin x S3 r
    | true =>
      cases d with
      | dct kvs =>
        obtain ⟨u, h1, h2, h3⟩ := S2.freezeD fa ga no oa
        intro pins s I
        obtain ⟨od, I2⟩ := I.lock h1 h2
        obtain ⟨F', x, S3, r⟩ := h3 od
        exact fin x S3 r pins s I2
      | _ => cases hd
  | no => rw [e] at hp; exact h X W g env σ F G H D S hp
  | fz d => rw [e] at hp; exact h X W g env σ F G H D S hp
end
end IV

set_option linter.all false
set_option Elab.async false
set_option maxRecDepth 100000
set_option maxHeartbeats 4000000
/-! IVc: loops, stores (own work). -/
namespace IV
open PySem L2 PySem.Spec PyProof.Rows

section
variable {M : Mdl} {k : Nat} {p : Plc} {lk : Lk} {fr : Bool} {X : Cx} {W : WX} {e a b c tg iter : Expr} {ie ia ib ic : IE} {pos : Pos} {F F' F1 G H H' : Hp} {env : Env} {σ σ1 : L2.St}

def stepS (M : Mdl) (k : Nat) (lk : Lk) (t : Tg) (ib : List IS) (x : D) (env1 : Env) : R (Fl × Env) := (R.of (tgE lk t x env1)).bind fun env2 => evSs M.T (callF M.T k) lk ib env2
theorem evS_for (env : Env) (t : Tg) (kk : IK) (ies : List IE) (ib : List IS) : evS M.T (callF M.T k) lk (.for_ t kk ies ib) env = (evI M k lk kk ies env).bind fun p => loopS (stepS M k lk t ib) p.1 p.2 := by
  rw [evS]
  unfold evI
  cases evEs M.T (callF M.T k) lk ies env with
  | no => rfl
  | ex _ _ _ => rfl
  | ok p =>
    simp only [R.bind_ok]
    cases p.1.any isOwn with
    | true => rfl
    | false =>
      simp only [Bool.false_eq_true, if_false]
      cases itD kk p.1 with
      | none => rfl
      | some xs => rfl
theorem ss_for {body : List Stmt} {ib : List IS} {t : Tg} {kk : IK} {ies : List IE} (hI : SI M k p lk tg iter kk ies) (hT : chkTg p t tg = true) (hb : SSs M k p lk fr body ib) (hs : ∀ env x, foldedSetIterable iter env x = pure x) :
    SS M k p lk fr (.For tg iter body [] pos) (.for_ t kk ies ib) := by
  intro X W g env σ F G H D S hp
  refine sS_of (ps_for g.own g.calm (piS X tg iter) (pgS X tg) (pssS X body) (hs X.env)) (hI X W g env σ F G H _ S ?_)
  rw [evS_for] at hp
  refine hp.bindE fun xs env1 F1 H1 e1 x1 S1 hp1 J wk => ?_
  let Iv : Nat → L2.St → Hp → Prop := fun i σ' Hh => ∃ env' F', Ex F1 F' ∧ M.St env' σ' F' G Hh ∧ PS_ M W lk fr σ' F' G D (loopS (stepS M k lk t ib) (xs.drop i) env')
  refine ⟨fun i m σ' Hh => m = xs.length - i ∧ i ≤ xs.length ∧ Iv i σ' Hh, ⟨_, rfl, Nat.zero_le _, env1, F1, Ex.refl _, S1, by rw [List.drop_zero]; exact hp1⟩, ?_⟩
  rintro i m σ' Hh ⟨rfl, hi, env', F', x', S', hl⟩
  by_cases hlt : i < xs.length
  · refine .inr ⟨((wk F' Hh x' S'.fh).1 i xs[i] (by simp [hlt])).1, Iv (i + 1), fun σ2 H' q => ⟨xs.length - (i + 1), by omega, rfl, hlt, q⟩, fun v H' hy => ?_⟩
    obtain ⟨F3, x3, S3, r3⟩ := ((wk F' Hh x' S'.fh).1 i xs[i] (by simp [hlt])).2 v H' hy env' σ' _ S'
    rw [List.drop_eq_getElem_cons hlt] at hl
    unfold loopS stepS at hl
    cases ht : tgE lk t xs[i] env' with
    | none => rw [ht] at hl; exact hl.elim
    | some env2 =>
      rw [ht] at hl
      simp only [R.of_some, R.bind_ok] at hl
      refine tgE_ok g hT S3 r3 ht fun σ2 S4 chg hlk => hb X W g env2 σ2 F3 G H' _ S4 ?_
      have kp : Kept lk σ' σ2 := chg.kept hlk
      cases hr : evSs M.T (callF M.T k) lk ib env2 with
      | no => rw [hr] at hl; exact hl.elim
      | ex _ _ _ => rw [hr] at hl; exact PS_.grow (D := D) (fr := fr) (lk := lk) hl x3 kp
      | ok q =>
        rw [hr] at hl
        simp only [R.bind_ok] at hl
        intro σ5 F5 H5 x5 S5 kp5
        cases hf : q.1 with
        | next =>
          rw [hf] at hl
          exact ⟨q.2, F5, (x'.trans x3).trans x5, S5, PS_.grow hl (x3.trans x5) (kp.trans kp5)⟩
        | cont =>
          rw [hf] at hl
          exact ⟨q.2, F5, (x'.trans x3).trans x5, S5, PS_.grow hl (x3.trans x5) (kp.trans kp5)⟩
        | brk => rw [hf] at hl; exact hl σ5 F5 H5 (x3.trans x5) S5 (kp.trans kp5)
        | ret d => rw [hf] at hl; exact hl σ5 F5 H5 (x3.trans x5) S5 (kp.trans kp5)
  · have e : i = xs.length := by omega
    subst e
    rw [List.drop_length] at hl
    exact .inl ⟨(wk F' Hh x' S'.fh).2, hl σ' F' Hh (Ex.refl _) S' Kept.refl⟩
theorem ss_while {body : List Stmt} {ib : List IS} (hc : ST M k p lk c ic) (hb : SSs M k p lk fr body ib) : SS M k p lk fr (.While c body [] pos) (.while_ ic ib) := by
  intro X W g env σ F G H D S hp
  refine sS_of (ps_while g.own (ptS X c) (pssS X body)) ?_
  rw [evS] at hp
  refine ⟨fun m σ' Hh => ∃ env' F', Ex F F' ∧ M.St env' σ' F' G Hh ∧ PS_ M W lk fr σ' F' G D (loopW (fun env => (evE M.T (callF M.T k) lk ic env).bind fun p => (R.of (truth (res p.2 p.1))).bind fun k => .ok (k, p.2)) (fun env => evSs M.T (callF M.T k) lk ib env) m env'),
    ⟨M.T.fuel, env, F, Ex.refl _, S, hp⟩, ?_⟩
  rintro m σ' Hh ⟨env', F', x', S', hl⟩
  cases m with
  | zero => exact hl.elim
  | succ m =>
    unfold loopW at hl
    refine hc X W g env' σ' F' G Hh _ S' (hl.bindE fun b env2 F2 H2 e2 x2 S2 hp2 => ?_)
    cases b with
    | false => exact hp2 σ' F2 H2 (Ex.refl _) S2 Kept.refl
    | true =>
      simp only [if_true] at hp2 ⊢
      refine ⟨fun σ3 H3 => ∃ env3 F3, Ex F F3 ∧ M.St env3 σ3 F3 G H3 ∧ PS_ M W lk fr σ3 F3 G D (loopW (fun env => (evE M.T (callF M.T k) lk ic env).bind fun p => (R.of (truth (res p.2 p.1))).bind fun k => .ok (k, p.2)) (fun env => evSs M.T (callF M.T k) lk ib env) m env3), fun σ3 H3 q => ⟨m, Nat.lt_succ_self _, q⟩, ?_⟩
      refine hb X W g env2 σ' F2 G H2 _ S2 ?_
      cases hr : evSs M.T (callF M.T k) lk ib env2 with
      | no => rw [hr] at hp2; exact hp2.elim
      | ex _ _ _ => rw [hr] at hp2; exact hp2
      | ok q =>
        rw [hr] at hp2
        simp only [R.bind_ok] at hp2
        intro σ5 F5 H5 x5 S5 kp5
        cases hf : q.1 with
        | next =>
          rw [hf] at hp2
          exact ⟨q.2, F5, (x'.trans x2).trans x5, S5, PS_.grow hp2 x5 kp5⟩
        | cont =>
          rw [hf] at hp2
          exact ⟨q.2, F5, (x'.trans x2).trans x5, S5, PS_.grow hp2 x5 kp5⟩
        | brk => rw [hf] at hp2; exact hp2 σ5 F5 H5 x5 S5 kp5
        | ret d => rw [hf] at hp2; exact hp2 σ5 F5 H5 x5 S5 kp5

/-! ### methods that change a list -/
theorem ownsL_of {i : Nat} (h : ownsL env i = true) : ∃ xs, getE env i = .ow (.lst xs) := by
  unfold ownsL at h
  split at h
  · rename_i xs e; exact ⟨xs, e⟩
  · cases h
theorem ownsX_of {i : Nat} (h : ownsX env i = true) : ∃ d, getE env i = .ow d := by
  unfold ownsX at h
  split at h
  · rename_i xs e; exact ⟨xs, e⟩
  · cases h
theorem PS_.nite {D : Ends} {c : Bool} {r : R (Fl × Env)} (h : PS_ M W lk fr σ F G D (if (!c) = true then .no else r)) : c = true ∧ PS_ M W lk fr σ F G D r := by
  cases c with
  | false => exact h.elim
  | true => exact ⟨rfl, h⟩
theorem Post.nite {α : Type} {P : α → Env → Hp → Hp → Prop} {c : Bool} {r : R (α × Env)} (h : Post M W σ F G P (if (!c) = true then .no else r)) : c = true ∧ Post M W σ F G P r := by
  cases c with
  | false => exact h.elim
  | true => exact ⟨rfl, h⟩
def onLine (apos cpos : Pos) : Bool := apos.endLine == cpos.line
/-- the name owns what it owned -/
theorem Owns_at {env1 : Env} {F1 H1 : Hp} {i : Nat} {a : Addr} (ea : σ[i]? = some (some (V.ref a))) (S1 : M.St env1 σ F1 G H1) {d : D} (h : getE env1 i = .ow d) : F1 a = none ∧ G a = none ∧ OwnAt M.cl M.K F1 H1 a d := by
  have q := S1.ent i
  rw [h] at q
  obtain ⟨b, eb, q1, q2, q3⟩ := q
  rw [ea] at eb
  cases eb
  exact ⟨q1, q2, q3⟩
theorem one_paired {σ : L2.St} {vs : List V} {d : D} (h : Paired (M.RV F σ) vs [d]) : ∃ v, vs = [v] ∧ M.RV F σ v d := by
  cases h with
  | cons h t => cases t; exact ⟨_, rfl, h⟩
theorem line_size : (line : Nat) = sizeLine := by rw [sizeLine_eq]; rfl
def rPopN : V → List V → Hp → VK → Prop := fun x vs H Q => ∃ l xs i k y, x = .ref l ∧ vs = [.int i] ∧ H l = some (.lst xs) ∧ ixN xs.length i = some k ∧ xs[k]? = some y ∧ Q y (upd H l (.lst (xs.eraseIdx k)))
theorem mt_popN : MtM X "list.pop" rPopN := by
  intro pins s σ H x vs v us Q I rx rv ⟨l, xs, i, k, y, e1, e2, hH, hk, hy, q⟩
  have hz := (I.lstM hH).1
  have hs : (sizeLine : Nat) = 16777216 := by rw [sizeLine_eq]
  obtain ⟨h1, h2, h3, h4⟩ := ixN_seq hk
  exact mt_popAt pins s σ H x vs v us Q I rx rv ⟨l, xs, i, k, y, e1, e2, hH, by omega, by omega, h1, hy, q⟩
theorem own_lst {a : Addr} {xs : List D} {vs : List V} (r : M.Reps F vs xs) : OwnAt M.cl M.K F (upd H a (.lst vs)) a (.lst xs) := ⟨vs, upd_same, r⟩
theorem ss_app {i : Nat} {x : Str} {pn apos cpos : Pos} (hx : seen p i x = true) (hl : onLine apos cpos = true) (hst : notStar e = true) (he : SE M k p lk e ie) :
    SS M k p lk fr (.Expr (.Call (.Attribute (.Name x pn) "append" apos) [e] [] cpos) pos) (.app i ie) := by
  intro X W g env σ F G H D S hp
  rw [evS] at hp
  obtain ⟨h0, hp⟩ := hp.nite
  obtain ⟨xs0, h0⟩ := ownsL_of h0
  have q0 := S.ent i
  rw [h0] at q0
  obtain ⟨a, ea, fa, ga, vs0, ha0, ra0⟩ := q0
  have hlate : PE X (.Call (.Attribute (.Name x pn) "append" apos) [e] [] cpos) (tBM X.K "list" rAppend (tVar i) (tCons (sE X e) tNil)) := by
    refine pe_bm PySem.F.plainAttrs_list PySem.F.slot_list_append PySem.F.type_list_append mt_append (pv_of g hx) (pa_cons (peS X e) pa_nil (starEach_cons hst [] X.env)) rfl ?_ hl (starEach_cons hst [] X.env) rfl
    rw [starEach_cons hst [] X.env]; rfl
  refine sS_of (ps_expr hlate rfl) ⟨_, ea, .inl ⟨rfl, vs0, SqL.of ha0⟩, he X W g env σ F G H _ S (hp.bindE fun d env1 F1 H1 e1 x1 S1 hp1 v r => ?_)⟩
  obtain ⟨hn, hp1⟩ := hp1.ite
  cases e2 : getE env1 i with
  | ow d2 =>
    cases d2 with
    | lst xs =>
      rw [e2] at hp1
      simp only at hp1
      by_cases hlt : xs.length < line
      · rw [if_pos hlt] at hp1
        obtain ⟨fa1, ga1, vs, ha1, ra1⟩ := Owns_at ea S1 e2
        refine ⟨a, vs, v, rfl, rfl, ha1, by rw [ra1.length, ← line_size]; exact hlt, ?_⟩
        exact hp1 σ F1 _ (Ex.refl _) (St_upd S1 e2 ea (own_lst (ra1.append (.cons ((rv_of hn).mp r) .nil))) fun C dx fs z => by rw [fa1] at z; cases z) Kept.refl
      · rw [if_neg hlt] at hp1; exact hp1.elim
    | _ => rw [e2] at hp1; exact hp1.elim
  | no => rw [e2] at hp1; exact hp1.elim
  | fz d => rw [e2] at hp1; exact hp1.elim
theorem sE_pop {i : Nat} {x : Str} {pn apos cpos : Pos} (hx : seen p i x = true) (hl : onLine apos cpos = true) :
    SE M k p lk (.Call (.Attribute (.Name x pn) "pop" apos) [] [] cpos) (.pop i) := by
  intro X W g env σ F G H Q S hp
  rw [evE] at hp
  have q0 := S.ent i
  cases h0 : getE env i with
  | ow d2 =>
    cases d2 with
    | lst xs =>
      rw [h0] at q0 hp
      obtain ⟨a, ea, fa, ga, vs, ha, ra⟩ := q0
      simp only at hp
      refine sE_of (pe_bm0 PySem.F.plainAttrs_list PySem.F.slot_list_pop PySem.F.type_list_pop mt_pop (pv_of g hx) rfl hl) ⟨_, ea, .inl ⟨rfl, vs, SqL.of ha⟩, ?_⟩
      cases hy : xs.getLast? with
      | none => rw [hy] at hp; exact hp.elim
      | some y =>
        rw [hy] at hp
        have hy' : xs[xs.length - 1]? = some y := by rw [← List.getLast?_eq_getElem?]; exact hy
        obtain ⟨v, ev, rv⟩ := ra.get hy'
        refine ⟨a, vs, v, rfl, rfl, ha, by rw [ra.length]; exact ev, ?_⟩
        refine hp F _ (Ex.refl _) (St_upd S h0 ea (own_lst ra.dropLast) fun C dx fs z => by rw [fa] at z; cases z) v ?_
        cases y with
        | own j => cases rv
        | _ => exact rv
    | _ => rw [h0] at hp; exact hp.elim
  | no => rw [h0] at hp; exact hp.elim
  | fz d => rw [h0] at hp; exact hp.elim
theorem sE_popAt {i : Nat} {x : Str} {pn apos cpos : Pos} (hx : seen p i x = true) (hl : onLine apos cpos = true) (hst : notStar e = true) (he : SE M k p lk e ie) :
    SE M k p lk (.Call (.Attribute (.Name x pn) "pop" apos) [e] [] cpos) (.popAt i ie) := by
  intro X W g env σ F G H Q S hp
  rw [evE] at hp
  obtain ⟨h0, hp⟩ := hp.nite
  obtain ⟨xs0, h0⟩ := ownsL_of h0
  have q0 := S.ent i
  rw [h0] at q0
  obtain ⟨a, ea, fa, ga, vs0, ha0, ra0⟩ := q0
  have hlate : PE X (.Call (.Attribute (.Name x pn) "pop" apos) [e] [] cpos) (tBM X.K "list" rPopN (tVar i) (tCons (sE X e) tNil)) := by
    refine pe_bm PySem.F.plainAttrs_list PySem.F.slot_list_pop PySem.F.type_list_pop mt_popN (pv_of g hx) (pa_cons (peS X e) pa_nil (starEach_cons hst [] X.env)) rfl ?_ hl (starEach_cons hst [] X.env) rfl
    rw [starEach_cons hst [] X.env]; rfl
  refine sE_of hlate ⟨_, ea, .inl ⟨rfl, vs0, SqL.of ha0⟩, he X W g env σ F G H _ S (hp.bind fun d env1 F1 H1 e1 x1 S1 hp1 v r => ?_)⟩
  cases e2 : getE env1 i with
  | ow d2 =>
    cases d2 with
    | lst xs =>
      cases d with
      | int j =>
        rw [e2] at hp1
        simp only at hp1
        obtain ⟨m, hm, hp2⟩ := hp1.of
        obtain ⟨y, hy, hp3⟩ := hp2.of
        obtain ⟨fa1, ga1, vs, ha1, ra1⟩ := Owns_at ea S1 e2
        obtain ⟨w, ew, rw'⟩ := ra1.get hy
        have hvj : v = .int j := by cases (show M.Rep F1 v (.int j) from r); rfl
        subst hvj
        refine ⟨a, vs, j, m, w, rfl, rfl, ha1, by rw [ra1.length]; exact hm, ew, ?_⟩
        refine hp3 F1 _ (Ex.refl _) (St_upd S1 e2 ea (own_lst (ra1.eraseIdx m)) fun C dx fs z => by rw [fa1] at z; cases z) w ?_
        cases y with
        | own j => cases rw'
        | _ => exact rw'
      | _ => rw [e2] at hp1; exact hp1.elim
    | _ => rw [e2] at hp1; exact hp1.elim
  | no => rw [e2] at hp1; exact hp1.elim
  | fz d => rw [e2] at hp1; exact hp1.elim

/-! ### x[k] = e -/
theorem set_dict (hu : X.A.units + 1 < cLine) : PSet X (fun o i v H Q => ∃ a H4, o = .ref a ∧ DPut H a i v H4 ∧ Q H4) := by
  intro pins s σ H o i v ov iv u Q I ro ri rv ⟨a, H4, e, g, q⟩
  subst e
  cases ro
  exact d_setItem hu I g ri rv fun s4 I4 => ⟨H4, I4, q⟩
theorem set_or {t t' : TSet} (h : PSet X t) (h' : PSet X t') : PSet X (fun o i v H Q => t o i v H Q ∨ t' o i v H Q) := by
  intro pins s σ H o i v ov iv u Q I ro ri rv q
  rcases q with q | q
  · exact h pins s σ H o i v ov iv u Q I ro ri rv q
  · exact h' pins s σ H o i v ov iv u Q I ro ri rv q
theorem RepK.map_put : ∀ {ps : List (Key × V)} {kvs : List (D × D)} (k : Key) {v : V} {d : D}, M.RepK F ps kvs → M.Rep F v d → M.RepK F (ps.map fun kv => if kv.1 = k then (kv.1, v) else kv) (kvs.map fun kv => if deq kv.1 (keyD k) then (kv.1, d) else kv)
  | _, _, _, _, _, .nil, _ => .nil
  | _, _, k, v, d, .cons (k := k') r rs, rv => by
    simp only [List.map_cons, keyD_eq, decide_eq_true_eq]
    by_cases e : k' = k
    · rw [if_pos e, if_pos e]
      exact .cons rv (RepK.map_put k rs rv)
    · rw [if_neg e, if_neg e]
      exact .cons r (RepK.map_put k rs rv)
theorem RepK.append : ∀ {ps qs : List (Key × V)} {kvs lvs : List (D × D)}, M.RepK F ps kvs → M.RepK F qs lvs → M.RepK F (ps ++ qs) (kvs ++ lvs)
  | _, _, _, _, .nil, s => s
  | _, _, _, _, .cons r rs, s => .cons r (RepK.append rs s)
theorem keyIn_any : ∀ {ps : List (Key × V)} {kvs : List (D × D)} (k : Key), M.RepK F ps kvs → (ps.any fun kv => decide (kv.1 = k)) = keyIn (keyD k) kvs
  | _, _, _, .nil => rfl
  | _, _, k, .cons r rs => by
    simp only [List.any_cons, keyIn, keyD_eq]
    rw [keyIn_any k rs]
theorem keySet_ok {ps : List (Key × V)} {kvs : List (D × D)} (k : Key) {v : V} {d : D} (r : M.RepK F ps kvs) (rv : M.Rep F v d) : M.RepK F (putK ps k v) (keySet (keyD k) d kvs) := by
  unfold putK keySet
  rw [keyIn_any k r]
  by_cases h : keyIn (keyD k) kvs = true
  · rw [if_pos h, if_pos h]; exact RepK.map_put k r rv
  · rw [if_neg h, if_neg h]; exact RepK.append r (.cons rv .nil)
theorem ss_set {i : Nat} {x : Str} {pn ps : Pos} {kx : Expr} {ik : IE} (hx : seen p i x = true) (hc : noComp e = true) (hi : plainIx kx = true) (he : SE M k p lk e ie) (hk : SE M k p lk kx ik) :
    SS M k p lk fr (.Assign [.Subscript (.Name x pn) kx ps] e pos) (.set i ik ie) := by
  intro X W g env σ F G H D S hp
  rw [evS] at hp
  have hu1 : X.A.units + 1 < cLine := by have := g.room.units; omega
  have hg : PG X (.Subscript (.Name x pn) kx ps) (gSub (tVar i) (sE X kx) (fun o i v H Q => rSetL o i v H Q ∨ ∃ a H4, o = .ref a ∧ DPut H a i v H4 ∧ Q H4)) := by
    refine pg_sub (pv_of g hx) (peS X kx) (set_or set_list (set_dict hu1)) ?_
    intro v
    cases kx <;> first | rfl | cases hi
  refine sS_of (ps_asg (peS X e) hg (noSwapS hc)) (he X W g env σ F G H _ S (hp.bindE fun d env1 F1 H1 e1 x1 S1 hp1 v r => ?_))
  obtain ⟨h0, hp2⟩ := hp1.nite
  obtain ⟨d0, h0⟩ := ownsX_of h0
  have q0 := S1.ent i
  rw [h0] at q0
  obtain ⟨a, ea, _⟩ := q0
  refine ⟨_, ea, hk X W g env1 σ F1 G H1 _ S1 (hp2.bindE fun dk env2 F2 H2 e2 x2 S2 hp3 vk rk => ?_)⟩
  obtain ⟨hn, hp4⟩ := hp3.ite
  have rd : M.Rep F2 v d := ((rv_of hn).mp r).mono x2
  cases e3 : getE env2 i with
  | ow d2 =>
    rw [e3] at hp4
    cases d2 with
    | lst xs =>
      cases dk with
      | int j =>
        simp only at hp4
        obtain ⟨m, hm, hp5⟩ := hp4.of
        obtain ⟨fa1, ga1, vs, ha1, ra1⟩ := Owns_at ea S2 e3
        have hvj : vk = .int j := by cases (show M.Rep F2 vk (.int j) from rk); rfl
        subst hvj
        refine .inl ⟨a, vs, j, m, rfl, rfl, ha1, by rw [ra1.length]; exact hm, ?_⟩
        exact hp5 σ F2 _ (Ex.refl _) (St_upd S2 e3 ea (own_lst (ra1.set m rd)) fun C dx fs z => by rw [fa1] at z; cases z) Kept.refl
      | _ => exact hp4.elim
    | dct kvs =>
      simp only at hp4
      by_cases hc : (isKey dk && decide (kvs.length < line)) = true
      · rw [if_pos hc] at hp4
        simp only [Bool.and_eq_true, decide_eq_true_eq] at hc
        obtain ⟨key, rfl⟩ := key_of_d hc.1
        obtain ⟨fa1, ga1, vs, ha1, ra1⟩ := Owns_at ea S2 e3
        have hv : vk = kV key := by
          have hno : isOwn (keyD key) = false := by cases key <;> rfl
          exact key_rx (.inl ((rv_of hno).mp rk) : M.RX F2 F2 _ _)
        subst hv
        refine .inr ⟨a, _, rfl, .inl ⟨vs, key, ha1, rfl, by rw [ra1.length, ← line_size]; exact hc.2, rfl⟩, ?_⟩
        exact hp4 σ F2 _ (Ex.refl _) (St_upd S2 e3 ea ⟨_, upd_same, keySet_ok key ra1 rd⟩ fun C dx fs z => by rw [fa1] at z; cases z) Kept.refl
      · rw [if_neg hc] at hp4; exact hp4.elim
    | _ => exact hp4.elim
  | no => rw [e3] at hp4; exact hp4.elim
  | fz d => rw [e3] at hp4; exact hp4.elim
end
end IV

set_option linter.all false
set_option Elab.async false
set_option maxRecDepth 100000
set_option maxHeartbeats 4000000
/-! IVd: a, b = x, y (own work). -/
namespace IV
open PySem L2 PySem.Spec PyProof.Rows

section
variable {M : Mdl} {k : Nat} {p : Plc} {lk : Lk} {fr : Bool} {X : Cx} {W : WX} {e a b c tg iter : Expr} {ie ia ib ic : IE} {pos : Pos} {F F' F1 G H H' : Hp} {env : Env} {σ σ1 : L2.St}

universe u
def sw5 {α : Type u} (c1 c2 c3 c4 c5 : Bool) (names : List Str) (f b : Option (List Str) → α) : α :=
  if c1 = true then f none else if c2 = true then f none else if c3 = true then f none else if c4 = true then f none else if c5 = true then b (some names) else f (some names)
theorem sw5_of {α : Type u} {c1 c2 c3 c4 c5 : Bool} {names : List Str} {f b : Option (List Str) → α} {r : Option (List Str)} (h : sw5 c1 c2 c3 c4 c5 names (fun r => some r) (fun _ => none) = some r) : sw5 c1 c2 c3 c4 c5 names f b = f r := by
  unfold sw5 at h ⊢
  cases c1 <;> cases c2 <;> cases c3 <;> cases c4 <;> cases c5 <;> simp at h ⊢ <;> subst h <;> rfl
def swN (sc : Scope) (ts : List Expr) : List Str := ts.filterMap fun
      | .Name id pos => if sc.names.lookup id == some .local && pos.line == (ts.head?.map (·.pos.line)).getD 0 then some id else none
      | _ => none
def swG {α : Type u} (sc : Scope) (ts vs : List Expr) (f : Option (List Str) → α) (b : Option (List Str) → α) : α :=
  sw5 (!(ts.length == 2 || ts.length == 3) || vs.length != ts.length || (if sc.kind.isAnnotationScope then .function else sc.kind) != .function)
    (vs.any fun | .Starred .. => true | _ => false) ((swN sc ts).length != ts.length || (swN sc ts).eraseDups.length != (swN sc ts).length) (vs.all (foldedForSure 8)) (vs.all (constantsAlone 8)) (swN sc ts) f b
def swF (sc : Scope) (ts vs : List Expr) : Option (Option (List Str)) := swG sc ts vs (fun r => some r) (fun _ => none)
theorem swF_ok {env : PySem.Env} {ts vs : List Expr} {kt k2 : Nat} {pt pt2 : Pos} {r : Option (List Str)} (h : swF env.scope ts vs = some r) : swappedStores [.Tuple ts kt pt] (.Tuple vs k2 pt2) env = pure r := by
  have e : swappedStores [.Tuple ts kt pt] (.Tuple vs k2 pt2) env = swG env.scope ts vs (fun r => pure r) (fun n => do unsupported "assign.tuple-of-constant-expressions:order-of-the-stores"; return n) := rfl
  rw [e]
  exact sw5_of h

/-! ### the elements, new ones put aside -/
/-- something of nobody's is put aside -/
theorem St_hide (S : M.St env σ F G H) {a : Addr} {o : HO} (fa : F a = none) (ga : G a = none) (no : ∀ i, ¬ Owns env σ i a) (ha : H a = some o) : M.St env σ F (upd G a o) H := by
  refine ⟨S.fh, fun b u r => ?_, fun b h => ?_, S.len, fun i => ?_, S.sep⟩
  · by_cases hb : b = a
    · subst hb; rw [upd_same] at r; cases r; exact ha
    · rw [upd_ne hb] at r; exact S.gh _ _ r
  · by_cases hb : b = a
    · subst hb; exact absurd fa h
    · rw [upd_ne hb]; exact S.fg b h
  · have q := S.ent i
    cases e : getE env i with
    | no => trivial
    | fz dd => rw [e] at q; exact q
    | ow dd =>
      rw [e] at q
      obtain ⟨b, q1, q2, q3, q4⟩ := q
      have hb : b ≠ a := fun z => by subst z; exact no i ⟨⟨dd, e⟩, q1⟩
      exact ⟨b, q1, q2, by rw [upd_ne hb]; exact q3, q4⟩
def PAR (M : Mdl) (env : Env) (σ : L2.St) (F H : Hp) : Hp → List Bool → List V → List D → Prop
  | G, [], [], [] => M.St env σ F G H
  | G, false :: os, v :: vs, d :: ds => M.RV F σ v d ∧ PAR M env σ F H G os vs ds
  | G, true :: os, v :: vs, d :: ds => (isObj d = true → ∃ a o F0 H0, v = .ref a ∧ G a = none ∧ H0 a = some o ∧ Ex F0 F ∧ OwnAt M.cl M.K F0 H0 a d ∧ PAR M env σ F H (upd G a o) os vs ds) ∧ (isObj d = false → PAR M env σ F H G os vs ds)
  | _, _, _, _ => False
def ParP (M : Mdl) (W : WX) (σ : L2.St) (F G : Hp) (os : List Bool) (Q : List V → Hp → Prop) : R (List D × Env) → Prop
  | .ok q => ∀ F' H' vs, Ex F F' → PAR M q.2 σ F' H' G os vs q.1 → Q vs H'
  | .ex c fs e => ∀ cls dd F' H', Ex F F' → M.St e σ F' G H' → XOk M F' H' cls dd c fs → W cls dd σ H'
  | .no => False
def Els (M : Mdl) (k : Nat) (p : Plc) (lk : Lk) : List Expr → List IE → List Bool → Prop
  | [], [], [] => True
  | e :: es, ie :: ies, o :: os => notStar e = true ∧ (if o then SN M k p lk e ie else SE M k p lk e ie) ∧ Els M k p lk es ies os
  | _, _, _ => False
theorem par_ok : ∀ {es : List Expr} {ies : List IE} {os : List Bool}, Els M k p lk es ies os → ies.any isStar = false → ∀ (X : Cx) (W : WX), Good M k p W X → ∀ (env : Env) (σ : L2.St) (F G H : Hp) (Q : List V → Hp → Prop), M.St env σ F G H →
    ParP M W σ F G os Q (evEs M.T (callF M.T k) lk ies env) → sA X es σ H Q
  | [], [], [], _, _, X, W, g, env, σ, F, G, H, Q, S, hp => by
    rw [evEs] at hp
    exact sA_of pa_nil (hp F H [] (Ex.refl _) S)
  | e :: es, ie :: ies, o :: os, hE, hst, X, W, g, env, σ, F, G, H, Q, S, hp => by
    obtain ⟨hs, he, hr⟩ := hE
    simp only [List.any_cons, Bool.or_eq_false_iff] at hst
    have hi : ∀ e', ie ≠ .star e' := fun e' z => by subst z; cases hst.1
    rw [evEs_cons hi] at hp
    have tl : ∀ {d : D} {env1 : Env}, evE M.T (callF M.T k) lk ie env = .ok (d, env1) → ParP M W σ F G (o :: os) Q ((evEs M.T (callF M.T k) lk ies env1).bind fun q => .ok (d :: q.1, q.2)) := fun {d env1} e1 => by rw [e1] at hp; exact hp
    have rest : ∀ {d : D} {env1 : Env} {F1 H1 G1 : Hp} {v : V}, evE M.T (callF M.T k) lk ie env = .ok (d, env1) → Ex F F1 → M.St env1 σ F1 G1 H1 → (∀ F' H' e, M.St e σ F' G1 H' → M.St e σ F' G H') →
        (∀ env2 F' H' vs ds, Ex F1 F' → PAR M env2 σ F' H' G1 os vs ds → PAR M env2 σ F' H' G (o :: os) (v :: vs) (d :: ds)) → sA X es σ H1 (fun vs H2 => Q (v :: vs) H2) := fun {d env1 F1 H1 G1 v} e1 x1 S1 back fwd => by
      have hp := tl e1
      refine par_ok hr hst.2 X W g env1 σ F1 G1 H1 _ S1 ?_
      cases h2 : evEs M.T (callF M.T k) lk ies env1 with
      | no => rw [h2] at hp; exact hp
      | ex _ _ _ => rw [h2] at hp; exact fun cls dd F' H' x S' => hp cls dd F' H' (x1.trans x) (back _ _ _ S')
      | ok q => rw [h2] at hp; exact fun F' H' vs x q' => hp F' H' (v :: vs) (x1.trans x) (fwd _ _ _ _ _ x q')
    cases o with
    | false =>
      refine sA_of (pa_cons (peS X e) (paS X es) (starEach_cons hs es X.env)) ((show SE M k p lk e ie from he) X W g env σ F G H _ S ?_)
      cases h1 : evE M.T (callF M.T k) lk ie env with
      | no => rw [h1] at hp; exact hp
      | ex _ _ _ => rw [h1] at hp; exact hp
      | ok q => exact fun F1 H1 x1 S1 v r => rest h1 x1 S1 (fun _ _ _ s => s) fun env2 F' H' vs ds x q' => ⟨rv_mono x r, q'⟩
    | true =>
      refine sA_of (pa_cons (peS X e) (paS X es) (starEach_cons hs es X.env)) ((show SN M k p lk e ie from he) X W g env σ F G H _ S ?_)
      cases h1 : evE M.T (callF M.T k) lk ie env with
      | no => rw [h1] at hp; exact hp
      | ex _ _ _ => rw [h1] at hp; exact hp
      | ok q =>
        refine fun F1 H1 x1 S1 => ⟨fun ho v r => rest h1 x1 S1 (fun _ _ _ s => s) fun env2 F' H' vs ds x q' => ⟨fun z => (by rw [ho] at z; cases z), fun _ => q'⟩, fun ho a fa ga no oa => ?_⟩
        obtain ⟨ob, hob⟩ : ∃ ob, H1 a = some ob := by
          cases z : H1 a with
          | none => exact absurd z oa.there
          | some ob => exact ⟨ob, rfl⟩
        exact rest h1 x1 (St_hide S1 fa ga no hob) (fun _ _ _ s => (St_take s ga).1) fun env2 F' H' vs ds x q' => ⟨fun _ => ⟨a, ob, F1, H1, rfl, ga, hob, x, oa, q'⟩, fun z => (by rw [ho] at z; cases z)⟩
  | [], [], _ :: _, h, _, _, _, _, _, _, _, _, _, _, _, _ => h.elim
  | [], _ :: _, _, h, _, _, _, _, _, _, _, _, _, _, _, _ => h.elim
  | _ :: _, [], _, h, _, _, _, _, _, _, _, _, _, _, _, _ => h.elim
  | _ :: _, _ :: _, [], h, _, _, _, _, _, _, _, _, _, _, _, _ => h.elim
/-- stored from the right -/
def setR : List Nat → List V → L2.St → L2.St
  | i :: is, v :: vs, σ => (setR is vs σ).set i (some v)
  | _, _, σ => σ
theorem par_set : ∀ {is : List Nat} {os : List Bool} {ies : List IE} {vs : List V} {ds : List D} {G : Hp} {env' : Env}, PAR M env σ F H G os vs ds → parE M.T lk is os ies ds env = some env' → M.St env' (setR is vs σ) F G H ∧ vs.length = is.length ∧ ∀ j ∈ is, lk j = false
  | [], [], [], [], [], G, env', h, e => by
    cases e
    exact ⟨h, rfl, fun _ h => by simp at h⟩
  | i :: is, o :: os, ie :: ies, v :: vs, d :: ds, G, env', h, e => by
    unfold parE at e
    cases h1 : parE M.T lk is os ies ds env with
    | none => rw [h1] at e; cases e
    | some env1 =>
      rw [h1] at e
      simp only [Option.bind_some] at e
      cases o with
      | false =>
        obtain ⟨r, h⟩ := h
        obtain ⟨S1, hl, hk⟩ := par_set h h1
        simp only [Bool.false_eq_true, if_false] at e
        cases hn : isOwn d with
        | true => rw [hn] at e; cases e
        | false =>
          rw [hn] at e
          obtain ⟨hlk, hi, rfl⟩ := setE_some e
          exact ⟨St_set_fz S1 hi ((rv_of hn).mp r), by simp [hl], fun j hj => by
            rcases List.mem_cons.mp hj with rfl | hj
            · exact hlk
            · exact hk j hj⟩
      | true =>
        simp only [if_true] at e
        by_cases hc : (newE M.T ie && isObj d) = true
        · rw [if_pos hc] at e
          simp only [Bool.and_eq_true] at hc
          obtain ⟨hlk, hi, rfl⟩ := setE_some e
          obtain ⟨a, o, F0, H0, rfl, ga, h0, x0, oa, h⟩ := h.1 hc.2
          obtain ⟨S1, hl, hk⟩ := par_set h h1
          obtain ⟨S2, ha, fa, no⟩ := St_take S1 ga
          exact ⟨St_set_ow S2 hi fa ga no ((oa.mono x0).at (ha.trans h0.symm)), by simp [hl], fun j hj => by
            rcases List.mem_cons.mp hj with rfl | hj
            · exact hlk
            · exact hk j hj⟩
        · rw [if_neg hc] at e; cases e
  | [], [], [], [], _ :: _, _, _, h, _ => h.elim
  | [], [], [], _ :: _, _, _, _, h, _ => h.elim
  | [], [], _ :: _, _, _, _, _, _, e => by simp [parE] at e
  | [], _ :: _, _, _, _, _, _, _, e => by simp [parE] at e
  | _ :: _, [], _, _, _, _, _, _, e => by simp [parE] at e
  | _ :: _, _ :: _, [], _, _, _, _, _, e => by simp [parE] at e
  | _ :: _, _ :: _, _ :: _, _, [], _, _, _, e => by simp [parE] at e
  | _ :: _, true :: _, _ :: _, [], _ :: _, _, _, h, _ => h.elim
  | _ :: _, false :: _, _ :: _, [], _ :: _, _, _, h, _ => h.elim
theorem setR_out : ∀ {is : List Nat} {vs : List V} {j : Nat}, j ∉ is → (setR is vs σ)[j]? = σ[j]?
  | [], _, _, _ => rfl
  | _ :: _, [], _, _ => rfl
  | i :: is, v :: vs, j, h => by
    simp only [List.mem_cons, not_or] at h
    unfold setR
    rw [List.getElem?_set_ne (Ne.symm h.1)]
    exact setR_out h.2
theorem setR_len : ∀ {is : List Nat} {vs : List V} {σ : L2.St}, (setR is vs σ).length = σ.length
  | [], _, _ => rfl
  | _ :: _, [], _ => rfl
  | i :: is, v :: vs, σ => by unfold setR; rw [List.length_set, setR_len]
theorem setR_set : ∀ {is : List Nat} {vs : List V} {j : Nat} {ov : Option V} {σ : L2.St}, j ∉ is → setR is vs (σ.set j ov) = (setR is vs σ).set j ov
  | [], _, _, _, _, _ => rfl
  | _ :: _, [], _, _, _, _ => rfl
  | i :: is, v :: vs, j, ov, σ, h => by
    simp only [List.mem_cons, not_or] at h
    unfold setR
    rw [setR_set h.2, List.set_comm _ _ h.1]
theorem gNs_R : ∀ {is : List Nat} {vs : List V} {σ : L2.St} {Q : L2.St → Hp → Prop}, is.Nodup → vs.length = is.length → Q (setR is vs σ) H → gNs is vs σ H Q
  | [], [], σ, Q, _, _, q => ⟨rfl, q⟩
  | i :: is, v :: vs, σ, Q, nd, hl, q => by
    refine ⟨v, vs, rfl, gNs_R (List.nodup_cons.mp nd).2 (by simpa using hl) ?_⟩
    rw [setR_set (List.nodup_cons.mp nd).1]
    exact q
  | [], _ :: _, _, _, _, hl, _ => by simp at hl
  | _ :: _, [], _, _, _, hl, _ => by simp at hl

theorem ps_tupN {es vs : List Expr} {is : List Nat} {kt k2 : Nat} {pt pt2 pos : Pos} {ta : TA} (g : Good M k p W X) (hch : chkNs p is es = true) (ha : PA X vs ta) (hw : swappedStores [.Tuple es kt pt] (.Tuple vs k2 pt2) X.env = pure none) :
    PS X (.Assign [.Tuple es kt pt] (.Tuple vs k2 pt2) pos) (fun D σ H => ta σ H fun ws H1 => ws.length = is.length ∧ ws.length ≤ sizeLine ∧ gNs is ws σ H1 D.nx) := by
  obtain ⟨q1, q2, q3⟩ := pgns_of g hch
  refine ⟨fun pins s σ H D I h => ?_⟩
  refine wpAny_Assign_stores (Tuple_ (thn (ha.run _ pins s σ H _ I h) fun us s1 ⟨ws, H1, I1, r1, hl, hz, hq⟩ => ?_)) rfl hw
  have hlu : ws.length = us.length := r1.length
  refine wpAny_newObj_type ?_ (by show us.toArray.size ≤ sizeLine; simp; omega)
  have I2 : Inv X pins σ H1 { s1 with heap := s1.heap.push { cls := .type "tuple", data := .seq us.toArray } } := I1.kept (t' := s1.toks) fun b o e => Heap.get?_push_of_some _ e
  show wpAny (model X.prog X.w) X.A (assign (.Tuple es kt pt) X.env (.ref s1.heap.objs.size)) _ _ _
  refine assign_Tuple_tuple (I.ok.hd g.calm) (IsTup.new s1.heap _) (by rw [q2]; simp; omega) q3 fun h' hx => ?_
  have I3 := I2.kept (h' := h') (t' := s1.toks) fun b o e => hx b o (Nat.ne_of_lt (Heap.lt_size e)) e
  exact thn (q1.run pins _ σ H1 ws _ D.nx I3 (by simpa using r1) hq) fun _ s2 q => q
def chkSw (p : Plc) : List Expr → Bool
  | [] => true
  | .Name x _ :: r => decide (p.sc.names.lookup x = some .local) && chkSw p r
  | _ :: _ => false
/-- the names, by the rule of two or three -/
def chkPar (p : Plc) (is : List Nat) (es vs : List Expr) : Bool := chkNs p is es && (match swF p.sc es vs with
  | some none => true
  | some (some _) => match is, es, vs with
    | [_, _], [.Name x _, .Name y _], [_, _] => decide (swF p.sc es vs = some (some [x, y])) && chkSw p es
    | [_, _, _], [.Name x _, .Name y _, .Name z _], [_, _, _] => decide (swF p.sc es vs = some (some [x, y, z])) && chkSw p es
    | _, _, _ => false
  | none => false)
theorem ss_par {es vs : List Expr} {is : List Nat} {os : List Bool} {ies : List IE} {kt k2 : Nat} {pt pt2 : Pos} (hch : chkPar p is es vs = true) (hE : Els M k p lk vs ies os) (hz0 : decide (is.length ≤ line) = true) :
    SS M k p lk fr (.Assign [.Tuple es kt pt] (.Tuple vs k2 pt2) pos) (.par is os ies) := by
  intro X W g env σ F G H D S hp0
  rw [evS] at hp0
  obtain ⟨hc, hp⟩ := hp0.ite
  simp only [Bool.or_eq_false_iff, Bool.not_eq_false', decide_eq_true_eq] at hc
  obtain ⟨hst, hnd⟩ := hc
  have key : ∀ {Q : List V → Hp → Prop}, (∀ ws H1, ws.length = is.length → D.nx (setR is ws σ) H1 → Q ws H1) → sA X vs σ H Q := fun {Q} hQ => by
    refine par_ok hE hst X W g env σ F G H Q S ?_
    cases h1 : evEs M.T (callF M.T k) lk ies env with
    | no => rw [h1] at hp; exact hp
    | ex _ _ _ => rw [h1] at hp; exact fun cls dd F' H' x S => hp cls dd σ F' H' x S Kept.refl
    | ok q =>
      rw [h1] at hp
      simp only [R.bind_ok] at hp
      obtain ⟨env2, h2, hp⟩ := hp.of
      intro F' H' ws x pr
      obtain ⟨S', hl, hk⟩ := par_set pr h2
      exact hQ ws H' hl (hp (setR is ws σ) F' H' x S' ⟨setR_len, fun j hj => by
        rw [setR_out]
        intro hm
        rw [hk j hm] at hj; cases hj⟩)
  unfold chkPar at hch
  rw [Bool.and_eq_true] at hch
  obtain ⟨hch, hsw⟩ := hch
  have hz : is.length ≤ sizeLine := by rw [← line_size]; simpa using hz0
  split at hsw
  · rename_i e
    refine sS_of (ps_tupN g hch (paS X vs) (swF_ok (by rw [g.scope]; exact e))) (key fun ws H1 hl q => ⟨hl, by omega, gNs_R hnd hl q⟩)
  · rename_i e
    have hN : X.N.Nodup := by rw [g.names]; exact g.nd
    split at hsw
    · rename_i i j x px y py a b
      simp only [Bool.and_eq_true, decide_eq_true_eq, chkSw] at hsw
      simp only [chkNs, chkN, binds, Bool.and_eq_true, decide_eq_true_eq] at hch
      have hij : i ≠ j := by simpa using hnd
      refine sS_of (ps_par (i := i) (j := j) g.calm hN (by rw [g.names]; exact hch.1.1) (by rw [g.names]; exact hch.2.1.1) hij (by rw [g.scope]; exact hsw.2.1) (by rw [g.scope]; exact hsw.2.2.1) (paS X [a, b]) (swF_ok (by rw [g.scope]; exact hsw.1))) (key fun ws H1 hl q => ?_)
      match ws, hl, q with
      | [v, w], _, q => exact ⟨v, w, rfl, by rw [List.set_comm _ _ hij]; exact q⟩
    · rename_i i j l x px y py z pz a b c
      simp only [Bool.and_eq_true, decide_eq_true_eq, chkSw] at hsw
      simp only [chkNs, chkN, binds, Bool.and_eq_true, decide_eq_true_eq] at hch
      have hij : i ≠ j ∧ i ≠ l ∧ j ≠ l := by
        simp at hnd
        exact ⟨hnd.1.1, hnd.1.2, hnd.2⟩
      refine sS_of (ps_par3 (i := i) (j := j) (l := l) g.calm hN (by rw [g.names]; exact hch.1.1) (by rw [g.names]; exact hch.2.1.1) (by rw [g.names]; exact hch.2.2.1.1) hij.1 hij.2.1 hij.2.2 (by rw [g.scope]; exact hsw.2.1) (by rw [g.scope]; exact hsw.2.2.1) (by rw [g.scope]; exact hsw.2.2.2.1) (paS X [a, b, c]) (swF_ok (by rw [g.scope]; exact hsw.1))) (key fun ws H1 hl q => ?_)
      match ws, hl, q with
      | [u, v, w], _, q =>
        refine ⟨u, v, w, rfl, ?_⟩
        have e : ((σ.set i (some u)).set j (some v)).set l (some w) = setR [i, j, l] [u, v, w] σ := by
          show _ = ((σ.set l (some w)).set j (some v)).set i (some u)
          rw [List.set_comm _ _ hij.1, List.set_comm _ _ hij.2.1, List.set_comm _ _ hij.2.2]
        rw [e]; exact q
    · cases hsw
  · cases hsw
end
end IV

set_option linter.all false
set_option Elab.async false
set_option maxRecDepth 100000
set_option maxHeartbeats 4000000
/-! IVe: y = [..], chains, constants of modules (own work). -/
namespace IV
open PySem L2 PySem.Spec PyProof.Rows

section
variable {M : Mdl} {k : Nat} {p : Plc} {lk : Lk} {fr : Bool} {X : Cx} {W : WX} {e a b c tg iter : Expr} {ie ia ib ic : IE} {pos : Pos} {F F' F1 G H H' : Hp} {env : Env} {σ σ1 : L2.St}

def swB (sc scope : Scope) (y : Str) (py pos : Pos) : Bool := (if sc.kind.isAnnotationScope then .function else sc.kind) == .function && sc.names.lookup y == some .local && py.line == pos.line
      && !(scope.names.any fun (n, k) => n == y && (k == .local || k == .cell))
theorem swB_ok {elt : Expr} {gs : List Comprehension} {scope : Scope} {pos py : Pos} {y : Str} {l : Nat} {env : PySem.Env} : swapsWith (.ListComp elt gs scope pos) (some (.Name y py)) l env = pure (swB env.scope scope y py pos) := rfl
/-- name = [..]: the value is at hand -/
theorem asg_fin {i : Nat} {D : Ends} {d : IV.D} (S : M.St env σ F G H) (hp : PS_ M W lk fr σ F G D ((R.of (setE lk i (.fz d) env)).bind fun env => .ok (.next, env))) {v : V} (r : M.Rep F v d) : D.nx (σ.set i (some v)) H := by
  obtain ⟨env2, hs, hp3⟩ := hp.of
  obtain ⟨hl, hi, rfl⟩ := setE_some hs
  exact hp3 _ F H (Ex.refl _) (St_set_fz S hi r) (kept_set hl)
/-- what a new list must be read as, for name = .. -/
theorem asgN {i : Nat} {D : Ends} (S : M.St env σ F G H) {r : R (IV.D × Env)} (hl : ∀ d env1, r = .ok (d, env1) → isDct d = false) (hp : PS_ M W lk fr σ F G D (r.bind fun p => if isOwn p.1 then .no else (R.of (setE lk i (.fz p.1) p.2)).bind fun env => .ok (.next, env))) :
    Post M W σ F G (fun d env' F' H' => PN M σ G (fun x H1 => D.nx (σ.set i (some x)) H1) d env' F' H') r := by
  refine hp.bindE fun d env1 F1 H1 e1 x1 S1 hp1 => ⟨fun ho v rv => ?_, fun ho a fa ga no oa => ?_⟩
  · obtain ⟨hn, hp2⟩ := hp1.ite
    exact asg_fin S1 hp2 ((rv_of hn).mp rv)
  · obtain ⟨hn, hp2⟩ := hp1.ite
    obtain ⟨F2, x2, S2, r2⟩ := S1.freeze fa ga no oa (hl d env1 e1)
    exact asg_fin S2 (PS_.grow hp2 x2 Kept.refl) r2
theorem ownN {i : Nat} {D : Ends} (S : M.St env σ F G H) {r : R (IV.D × Env)} (hp : PS_ M W lk fr σ F G D (r.bind fun p => if isObj p.1 then (R.of (setE lk i (.ow p.1) p.2)).bind fun env => .ok (.next, env) else .no)) :
    Post M W σ F G (fun d env' F' H' => PN M σ G (fun x H1 => D.nx (σ.set i (some x)) H1) d env' F' H') r := by
  refine hp.bindE fun d env1 F1 H1 e1 x1 S1 hp1 => ?_
  by_cases ho : isObj d = true
  · simp only [ho, if_true] at hp1
    obtain ⟨env2, hs, hp3⟩ := hp1.of
    obtain ⟨hl, hi, rfl⟩ := setE_some hs
    exact ⟨fun z => (by rw [ho] at z; cases z), fun _ a fa ga no oa => hp3 _ F1 H1 (Ex.refl _) (St_set_ow S1 hi fa ga no oa) (kept_set hl)⟩
  · simp only [ho, if_false] at hp1
    exact hp1.elim
theorem evE_comp_lst {own : List Nat} {t : Tg} {kk : IK} {ies iifs : List IE} {ielt : IE} {d : D} {env1 : Env} (h : evE M.T (callF M.T k) lk (.comp own t kk ies iifs true ielt) env = .ok (d, env1)) : isDct d = false := by
  rw [evE_comp] at h
  cases h1 : evI M k lk kk ies env with
  | no => rw [h1] at h; cases h
  | ex _ _ _ => rw [h1] at h; cases h
  | ok q =>
    rw [h1] at h
    simp only [R.bind_ok] at h
    split at h
    · cases h2 : R.noEx (loopC (stepC M k lk own t iifs ielt) q.1 (wipeE own q.2)) with
      | no => rw [h2] at h; cases h
      | ex _ _ _ => rw [h2] at h; cases h
      | ok r =>
        rw [h2] at h
        simp only [R.bind_ok] at h
        split at h
        · cases h; rfl
        · cases h
    · cases h
section
variable {elt : Expr} {ifs : List Expr} {scope : Scope} {ownS : List (Str × Nat)} {own : List Nat} {t : Tg} {kk : IK} {ies iifs : List IE} {ielt : IE} {i : Nat} {y : Str} {py spos : Pos}
theorem ps_comp (g : Good M k p W X) (hbn : binds p i y = true) (hb : blkC p.N p.sc scope ownS = true) (hs : ∀ env x, foldedSetIterable iter env x = pure x) :
    PS X (.Assign [.Name y py] (.ListComp elt [⟨tg, iter, ifs, 0⟩] scope pos) spos) (tAsg (tLc (sI X tg iter) (gRo X scope tg) (tRo X scope ifs) (eRo X scope elt) (ownS.map (·.2))) (gName i)) := by
  have hN : X.N.Nodup := by rw [g.names]; exact g.nd
  cases hsw : swB X.env.scope scope y py pos with
  | false =>
    exact ps_asg (pe_lc g.calm hN (piS X tg iter) (by rw [g.names, g.scope]; exact blkOk_by hb) (pg_ro X scope tg) (pt_ro X scope ifs) (pe_ro X scope elt) (hs X.env)) (pgn_of g hbn) (by
      refine Eq.trans (swB_ok (l := spos.line) (env := X.env) (elt := elt) (gs := [⟨tg, iter, ifs, 0⟩]) (scope := scope) (pos := pos) (py := py) (y := y)) ?_
      rw [hsw])
  | true =>
    have hloc : X.env.scope.names.lookup y = some .local := by
      unfold swB at hsw
      simp only [Bool.and_eq_true, beq_iff_eq] at hsw
      exact hsw.1.1.2
    have hbi : X.N[i]? = some y := by
      unfold binds at hbn
      simp only [Bool.and_eq_true, decide_eq_true_eq] at hbn
      rw [g.names]; exact hbn.1
    exact ps_setLc g.calm hN hbi hloc (by rw [swB_ok, hsw]) (piS X tg iter) (by rw [g.names, g.scope]; exact blkOk_by hb) (pg_ro X scope tg) (pt_ro X scope ifs) (pe_ro X scope elt) (hs X.env)
theorem ss_asgC (hbn : binds p i y = true) (hI : SI M k p lk tg iter kk ies) (hb : blkC p.N p.sc scope ownS = true) (ho : own = ownS.map (·.2))
    (hT : chkTg (p.blk scope) t tg = true) (hsub : ∀ i ∈ tgS t, i ∈ own) (hts : STs M k (p.blk scope) lk ifs iifs) (hE : SE M k (p.blk scope) lk elt ielt) (hs : ∀ env x, foldedSetIterable iter env x = pure x) :
    SS M k p lk fr (.Assign [.Name y py] (.ListComp elt [⟨tg, iter, ifs, 0⟩] scope pos) spos) (.asg i (.comp own t kk ies iifs true ielt)) := by
  intro X W g env σ F G H D S hp
  rw [evS] at hp
  exact sS_of (ps_comp g hbn hb hs) (comp_read hI hb ho hT hsub hts hE g S (asgN S (fun _ _ h => evE_comp_lst h) hp))
theorem ss_ownC (hbn : binds p i y = true) (hI : SI M k p lk tg iter kk ies) (hb : blkC p.N p.sc scope ownS = true) (ho : own = ownS.map (·.2))
    (hT : chkTg (p.blk scope) t tg = true) (hsub : ∀ i ∈ tgS t, i ∈ own) (hts : STs M k (p.blk scope) lk ifs iifs) (hE : SE M k (p.blk scope) lk elt ielt) (hs : ∀ env x, foldedSetIterable iter env x = pure x) :
    SS M k p lk fr (.Assign [.Name y py] (.ListComp elt [⟨tg, iter, ifs, 0⟩] scope pos) spos) (.own i (.comp own t kk ies iifs true ielt)) := by
  intro X W g env σ F G H D S hp
  rw [evS, if_pos (by rfl)] at hp
  exact sS_of (ps_comp g hbn hb hs) (comp_read hI hb ho hT hsub hts hE g S (ownN S hp))
end

/-! ### a < b < c -/
theorem sE_chain {o o' : COp} (ha : SE M k p lk a ia) (hb : SE M k p lk b ib) (hc : SE M k p lk c ic) (hm : behindInMarks (copOf o') c = false) : SE M k p lk (.Compare a [copOf o, copOf o'] [b, c] pos) (.chain o o' ia ib ic) := by
  intro X W g env σ F G H Q S hp
  refine sE_of (pe_chain sB_op sB_op (peS X a) (peS X b) (peS X c) hm) (ha X W g env σ F G H _ S ?_)
  rw [evE] at hp
  refine hp.bind fun d1 env1 F1 H1 e1 x1 S1 hp1 v1 r1 => hb X W g env1 σ F1 G H1 _ S1 (hp1.bind fun d2 env2 F2 H2 e2 x2 S2 hp2 v2 r2 => ?_)
  obtain ⟨d, hd, hp3⟩ := hp2.of
  obtain ⟨n1, n2⟩ := cop_no hd
  refine cop_ok g hd S2 (rx_of S2 (rv_mono x2 r1) n1) (rx_of S2 r2 n2) ⟨d, rfl, ?_⟩
  cases d with
  | false =>
    rw [if_neg (by decide)]
    exact hp3.ok (Ex.refl _) S2 _ (Rep.bl _)
  | true =>
    rw [if_pos rfl]
    simp only [if_true] at hp3
    refine hc X W g env2 σ F2 G H2 _ S2 (hp3.bind fun d3 env3 F3 H3 e3 x3 S3 hp4 v3 r3 => ?_)
    obtain ⟨d', hd', hp5⟩ := hp4.of
    obtain ⟨n1', n2'⟩ := cop_no hd'
    exact cop_ok g hd' S3 (rx_of S3 (rv_mono x3 r2) n1') (rx_of S3 r3 n2') (hp5.ok (Ex.refl _) S3 _ (Rep.bl _))

theorem R.bassoc {α β γ : Type} (x : R α) (f : α → R β) (g : β → R γ) : (x.bind f).bind g = x.bind fun a => (f a).bind g := by cases x <;> rfl
theorem R.of_bassoc {α β γ : Type} (x : Option α) (f : α → R β) (g : β → R γ) : ((R.of x).bind f).bind g = (R.of x).bind fun a => (f a).bind g := R.bassoc _ _ _
theorem sT_chain {o o' : COp} (ha : SE M k p lk a ia) (hb : SE M k p lk b ib) (hc : SE M k p lk c ic) (hm : behindInMarks (copOf o') c = false) : ST M k p lk (.Compare a [copOf o, copOf o'] [b, c] pos) (.chain o o' ia ib ic) := by
  intro X W g env σ F G H Q S hp
  refine sT_of (pt_chain sB_op sB_op (peS X a) (peS X b) (peS X c) hm) (ha X W g env σ F G H _ S ?_)
  rw [evE, R.bassoc] at hp
  refine hp.bind fun d1 env1 F1 H1 e1 x1 S1 hp1 v1 r1 => ?_
  rw [R.bassoc] at hp1
  refine hb X W g env1 σ F1 G H1 _ S1 (hp1.bind fun d2 env2 F2 H2 e2 x2 S2 hp2 v2 r2 => ?_)
  rw [R.of_bassoc] at hp2
  obtain ⟨d, hd, hp3⟩ := hp2.of
  obtain ⟨n1, n2⟩ := cop_no hd
  refine cop_ok g hd S2 (rx_of S2 (rv_mono x2 r1) n1) (rx_of S2 r2 n2) ⟨d, rfl, ?_⟩
  cases d with
  | false =>
    rw [if_neg (by decide)]
    exact ⟨false, rfl, hp3.ok (Ex.refl _) S2⟩
  | true =>
    rw [if_pos rfl]
    simp only [if_true] at hp3
    rw [R.bassoc] at hp3
    refine hc X W g env2 σ F2 G H2 _ S2 (hp3.bind fun d3 env3 F3 H3 e3 x3 S3 hp4 v3 r3 => ?_)
    rw [R.of_bassoc] at hp4
    obtain ⟨d', hd', hp5⟩ := hp4.of
    obtain ⟨n1', n2'⟩ := cop_no hd'
    exact cop_ok g hd' S3 (rx_of S3 (rv_mono x3 r2) n1') (rx_of S3 r3 n2') ⟨d', rfl, hp5.ok (Ex.refl _) S3⟩

/-! ### constants of the module -/
def GlsOk (M : Mdl) : Prop := ∀ x d, M.T.gl x = some d → (M.gnm x == ("__debug__" : Str)) = false ∧ isOwn d = false ∧ ∃ u v, M.mg (M.gnm x) = some u ∧ RelV v u ∧ ∀ F, M.Rep F v d
theorem sE_g (gl : GlsOk M) {x : Nat} (hg : glb p (M.gnm x) = true) : SE M k p lk (.Name (M.gnm x) pos) (.g x) := by
  intro X W g env σ F G H Q S hp
  rw [evE] at hp
  obtain ⟨d, hd, hp1⟩ := hp.of
  obtain ⟨h1, hn, u, v, h2, h3, h4⟩ := gl x d hd
  exact sE_of (pe_glob (gl_of g hg) (by rw [g.mg]; exact h2) h3 h1) (hp1.ok (Ex.refl _) S v ((rv_of hn).mpr (h4 F)))
end
end IV

set_option linter.all false
set_option Elab.async false
set_option maxRecDepth 100000
set_option maxHeartbeats 4000000
/-! IVf: methods of texts and dicts (own work). -/
namespace IV
open PySem L2 PySem.Spec PyProof.Rows

section
variable {M : Mdl} {k : Nat} {p : Plc} {lk : Lk} {fr : Bool} {X : Cx} {W : WX} {o e a b c tg iter : Expr} {io ie ia ib ic : IE} {pos apos cpos : Pos} {F F' F1 G H H' : Hp} {env : Env} {σ σ1 : L2.St}

theorem sE_bad : SE M k p lk e .bad := by
  intro X W g env σ F G H Q S hp
  rw [evE] at hp
  exact hp.elim
theorem sN_bad : SN M k p lk e .bad := by
  intro X W g env σ F G H Q S hp
  rw [evE] at hp
  exact hp.elim
theorem ss_bad {st : Stmt} : SS M k p lk fr st .bad := by
  intro X W g env σ F G H D S hp
  rw [evS] at hp
  exact hp.elim
/-- an attribute's base that is no super() -/
def plainBase : Expr → Bool
  | .Call _ _ _ _ => false
  | _ => true
theorem base_ok {name : Str} {env : PySem.Env} (h : plainBase o = true) : attributeBase o name env (eval o env) = eval o env := by
  cases o <;> first | rfl | cases h
theorem few1 {e : Expr} (h : notStar e = true) (env : PySem.Env) (cpos : Pos) : ((backTo cpos (starEach [e] env)).all (fun x => !x.1) && (backToKw cpos (keywordEach [] env)).all (fun x => x.1.isSome)
      && decide (([e] : List Expr).length + ([] : List Keyword).length + (if ([] : List Keyword).isEmpty then 0 else 1) < 30)) = true := by
  rw [starEach_cons h [] env]; rfl
theorem pe_str1 {name : Str} {id : String} {r : V → List V → Hp → VK → Prop} (slot : Slot "str" name id) (hty : typeOf (.builtin id) = pure (.type "method_descriptor")) (hm : MtR X id r) (hb : plainBase o = true) (hl : onLine apos cpos = true) (hs : notStar e = true) :
    PE X (.Call (.Attribute o name apos) [e] [] cpos) (tBM X.K "str" r (sE X o) (tCons (sE X e) tNil)) :=
  pe_bm PySem.F.plainAttrs_str slot hty hm (peS X o) (pa_cons (peS X e) pa_nil (starEach_cons hs [] X.env)) (base_ok hb) (few1 hs X.env cpos) hl (starEach_cons hs [] X.env) rfl
theorem evE_me1 {m : ME} (hi : ∀ e', ie ≠ .star e') : evE M.T (callF M.T k) lk (.me m io [ie]) env = ((evE M.T (callF M.T k) lk io env).bind fun p => if !meTy m (res p.2 p.1) then .no else (evE M.T (callF M.T k) lk ie p.2).bind fun q => (R.of (meD m (res q.2 p.1) [res q.2 q.1])).bind fun d => .ok (d, q.2)) := by
  rw [evE]
  cases evE M.T (callF M.T k) lk io env with
  | no => rfl
  | ex _ _ _ => rfl
  | ok q =>
    simp only [R.bind_ok]
    cases meTy m (res q.2 q.1) with
    | false => rfl
    | true =>
      simp only [Bool.not_true, Bool.false_eq_true, if_false]
      rw [evEs_cons hi]
      cases evE M.T (callF M.T k) lk ie q.2 with
      | no => rfl
      | ex _ _ _ => rfl
      | ok r => rfl
theorem str_rx (S : M.St env σ F G H) {v : V} {d : D} {s : Str} (r : M.RV F σ v d) (e : res env d = .str s) : v = .str s := by
  have := rx_of S r (by rw [e]; rfl)
  rw [e] at this
  exact RX.str this
/-- the base of a text's method -/
theorem str_base {m : ME} {d : D} (hm : ∀ d, meTy m d = true → ∃ s, d = .str s) (S : M.St env σ F G H) {v : V} (r : M.RV F σ v d) (h : meTy m (res env d) = true) : ∃ s, res env d = .str s ∧ v = .str s := by
  obtain ⟨s, e⟩ := hm _ h
  exact ⟨s, e, str_rx S r e⟩
theorem str_stay {d : D} {env1 : Env} {F1 H1 : Hp} {s : Str} (hS : M.St env σ F G H) (e : res env d = .str s) : d = .str s := by
  cases d with
  | own i =>
    simp only [res] at e
    split at e
    · rename_i d' h
      have q := hS.ent i
      rw [h] at q
      obtain ⟨a, _, _, _, oa⟩ := q
      subst e
      exact oa.elim
    · cases e
  | str t => exact e
  | _ => cases e
theorem meTy_split {d : D} (h : meTy .split d = true) : ∃ s, d = .str s := by cases d <;> first | exact ⟨_, rfl⟩ | cases h
theorem meTy_join {d : D} (h : meTy .join d = true) : ∃ s, d = .str s := by cases d <;> first | exact ⟨_, rfl⟩ | cases h
theorem meTy_partition {d : D} (h : meTy .partition d = true) : ∃ s, d = .str s := by cases d <;> first | exact ⟨_, rfl⟩ | cases h
theorem mkS_tl (l : List Nat) : (⟨l.toArray⟩ : Str).cps.toList = l := rfl
theorem strs_mk (ls : List (List Nat)) : (ls.map fun l => V.str ⟨l.toArray⟩) = (ls.map fun l => (⟨l.toArray⟩ : Str)).map V.str := by rw [List.map_map]; rfl
theorem reps_mk (ls : List (List Nat)) : M.Reps F ((ls.map fun l => (⟨l.toArray⟩ : Str)).map V.str) (ls.map mkS) := by
  induction ls with
  | nil => exact .nil
  | cons l ls ih => exact .cons (.str _) ih
theorem kind_small {x y : Str} (h : small8 y = true) : ¬ Builtin.Str.strKind x < Builtin.Str.strKind y := by
  refine TL.kind_ok ?_
  unfold small8 at h
  rw [← Array.all_toList]
  exact h
theorem sN_split (hb : plainBase o = true) (hl : onLine apos cpos = true) (hs : notStar e = true) (hi : ∀ e', ie ≠ .star e') (ho : SE M k p lk o io) (he : SE M k p lk e ie) :
    SN M k p lk (.Call (.Attribute o "split" apos) [e] [] cpos) (.me .split io [ie]) := by
  intro X W g env σ F G H Q S hp
  rw [evE_me1 hi] at hp
  refine sE_of (pe_str1 PySem.F.slot_str_split PySem.F.type_str_split mt_split hb hl hs) (ho X W g env σ F G H _ S (hp.bind fun d env1 F1 H1 e1 x1 S1 hp1 v r => ?_))
  obtain ⟨ht, hp2⟩ := hp1.nite
  obtain ⟨s, es, rfl⟩ := str_base (fun _ => meTy_split) S1 r ht
  have hd : d = .str s := str_stay (env1 := env1) (F1 := F1) (H1 := H1) S1 es
  subst hd
  refine ⟨rfl, he X W g env1 σ F1 G H1 _ S1 (hp2.bind fun d2 env2 F2 H2 e2 x2 S2 hp3 v2 r2 => ?_)⟩
  obtain ⟨dr, hr0, hp4⟩ := hp3.of
  have hr : meD .split (.str s) [res env2 d2] = some dr := hr0
  cases e3 : res env2 d2 with
  | str t =>
    have hv := str_rx S2 r2 e3
    subst hv
    rw [e3] at hr
    simp only [meD] at hr
    split at hr
    · rename_i hc
      simp only [Bool.and_eq_true, bne_iff_ne, ne_eq, decide_eq_true_eq] at hc
      cases hr
      refine ⟨s, t, rfl, rfl, by simpa using hc.1.1, by rw [← line_size]; exact hc.1.2, fun q hq => ?_⟩
      obtain ⟨S3, fq, gq, nq⟩ := S2.new (o := .lst ((Txt.split s t).map V.str)) hq
      have et : (Txt.split s t) = (TL.spl t.cps.toList 0 [] s.cps.toList).map fun l => (⟨l.toArray⟩ : Str) := by
        refine TL.map_tl_inj ?_
        have hne : TL.tl t ≠ [] := fun z => by
          apply hc.1.1
          rw [TL.len_tl, z]; rfl
        rw [TL.split_spl s t hne (kind_small hc.2), List.map_map]
        show _ = List.map _ _
        rw [show (TL.tl ∘ fun l => (⟨l.toArray⟩ : Str)) = id from rfl, List.map_id]
      refine (hp4 F2 _ (Ex.refl _) S3).2 rfl q fq gq nq ⟨_, upd_same, ?_⟩
      rw [et]
      exact reps_mk _
    · cases hr
  | _ => rw [e3] at hr; cases hr
theorem sE_partition (hb : plainBase o = true) (hl : onLine apos cpos = true) (hs : notStar e = true) (hi : ∀ e', ie ≠ .star e') (ho : SE M k p lk o io) (he : SE M k p lk e ie) :
    SE M k p lk (.Call (.Attribute o "partition" apos) [e] [] cpos) (.me .partition io [ie]) := by
  intro X W g env σ F G H Q S hp
  rw [evE_me1 hi] at hp
  refine sE_of (pe_str1 PySem.F.slot_str_partition PySem.F.type_str_partition mt_partition hb hl hs) (ho X W g env σ F G H _ S (hp.bind fun d env1 F1 H1 e1 x1 S1 hp1 v r => ?_))
  obtain ⟨ht, hp2⟩ := hp1.nite
  obtain ⟨s, es, rfl⟩ := str_base (fun _ => meTy_partition) S1 r ht
  have hd : d = .str s := str_stay (env1 := env1) (F1 := F1) (H1 := H1) S1 es
  subst hd
  refine ⟨rfl, he X W g env1 σ F1 G H1 _ S1 (hp2.bind fun d2 env2 F2 H2 e2 x2 S2 hp3 v2 r2 => ?_)⟩
  obtain ⟨dr, hr0, hp4⟩ := hp3.of
  have hr : meD .partition (.str s) [res env2 d2] = some dr := hr0
  cases e3 : res env2 d2 with
  | str t =>
    have hv := str_rx S2 r2 e3
    subst hv
    rw [e3] at hr
    simp only [meD] at hr
    split at hr
    · rename_i hc
      simp only [Bool.and_eq_true, bne_iff_ne, ne_eq, decide_eq_true_eq] at hc
      have hne : TL.tl t ≠ [] := fun z => by
        apply hc.1
        rw [TL.len_tl, z]; rfl
      refine ⟨s, t, rfl, rfl, by simpa using hc.1, by rw [← line_size]; exact hc.2, fun q hq => ?_⟩
      have hpp := TL.partition_par s t hne
      obtain ⟨x3, S3⟩ := S2.lay (o := .tup [.str (Txt.partition s t).1, .str (Txt.partition s t).2.1, .str (Txt.partition s t).2.2]) hq
      have fin : ∀ {x y z : Str}, Txt.partition s t = (x, y, z) → M.Rep (upd F2 q (.tup [.str (Txt.partition s t).1, .str (Txt.partition s t).2.1, .str (Txt.partition s t).2.2])) (.ref q) (.tup [.str x, .str y, .str z]) := fun {x y z} e => by
        refine .tup (SqT.of upd_same) ?_
        rw [e]
        exact .cons (.str _) (.cons (.str _) (.cons (.str _) .nil))
      split at hr
      · rename_i x y hpar
        cases hr
        rw [show TL.par (TL.tl t) [] (TL.tl s) = some (x, y) from hpar] at hpp
        exact hp4 _ _ x3 S3 (.ref q) (fin hpp)
      · rename_i hpar
        cases hr
        rw [show TL.par (TL.tl t) [] (TL.tl s) = none from hpar] at hpp
        exact hp4 _ _ x3 S3 (.ref q) (fin hpp)
    · cases hr
  | _ => rw [e3] at hr; cases hr
theorem sE_join (hb : plainBase o = true) (hl : onLine apos cpos = true) (hs : notStar e = true) (hi : ∀ e', ie ≠ .star e') (ho : SE M k p lk o io) (he : SE M k p lk e ie) :
    SE M k p lk (.Call (.Attribute o "join" apos) [e] [] cpos) (.me .join io [ie]) := by
  intro X W g env σ F G H Q S hp
  rw [evE_me1 hi] at hp
  refine sE_of (pe_str1 PySem.F.slot_str_join PySem.F.type_str_join mt_join hb hl hs) (ho X W g env σ F G H _ S (hp.bind fun d env1 F1 H1 e1 x1 S1 hp1 v r => ?_))
  obtain ⟨ht, hp2⟩ := hp1.nite
  obtain ⟨s, es, rfl⟩ := str_base (fun _ => meTy_join) S1 r ht
  have hd : d = .str s := str_stay (env1 := env1) (F1 := F1) (H1 := H1) S1 es
  subst hd
  refine ⟨rfl, he X W g env1 σ F1 G H1 _ S1 (hp2.bind fun d2 env2 F2 H2 e2 x2 S2 hp3 v2 r2 => ?_)⟩
  obtain ⟨dr, hr0, hp4⟩ := hp3.of
  have hr : ((strsOf (res env2 d2)).bind fun ys => if (ys.map (·.length)).sum + ys.length * s.length ≤ line then some (mkS (TL.joinL s.cps.toList (ys.map (·.cps.toList)))) else none) = some dr := hr0
  cases hys : strsOf (res env2 d2) with
  | none => rw [hys] at hr; cases hr
  | some ys =>
    rw [hys] at hr
    simp only [Option.bind_some] at hr
    split at hr
    · rename_i hc
      cases hr
      have hno : isOwn (res env2 d2) = false := by
        cases h : res env2 d2 <;> first | rfl | (rw [h] at hys; cases hys)
      have rx := rx_of S2 r2 hno
      have hj : Txt.join s ys = ⟨(TL.joinL s.cps.toList (ys.map (·.cps.toList))).toArray⟩ := by
        refine TL.ext_tl ?_
        rw [TL.join_eq, TL.tl_join]
      have fin : Q (.str (Txt.join s ys)) H2 := by
        rw [hj]
        exact hp4.ok (Ex.refl _) S2 _ (Rep.str _)
      cases h : res env2 d2 with
      | lst xs =>
        rw [h] at hys rx
        obtain ⟨a, vs, rfl, h1, h2⟩ := RX.lst rx S2.fh
        have := h2.strs hys
        subst this
        exact ⟨s, a, ys, rfl, rfl, .inl (by rw [g.K]; exact h1), hc, fin⟩
      | tup xs =>
        rw [h] at hys rx
        obtain ⟨a, vs, rfl, h1, h2, _⟩ := RX.tup rx S2.fh
        have := h2.strs hys
        subst this
        exact ⟨s, a, ys, rfl, rfl, .inr (by rw [g.K]; exact h1), hc, fin⟩
      | _ => rw [h] at hys; cases hys
    · cases hr
end
end IV

set_option linter.all false
set_option Elab.async false
set_option maxRecDepth 100000
set_option maxHeartbeats 4000000
/-! IVg: a def keeps its promise (own work). -/
namespace IV
open PySem L2 PySem.Spec PyProof.Rows

section
variable {M : Mdl} {k : Nat} {p : Plc} {lk : Lk} {fr : Bool} {X : Cx} {W : WX} {F F' F1 G H H' : Hp} {env : Env} {σ σ1 : L2.St}

theorem outsE_len : ∀ {as es : Env}, as.length ≤ es.length → (outsE as es).length = as.length
  | [], es, _ => by cases es <;> rfl
  | a :: as, [], h => by simp at h
  | a :: as, e :: es, h => by
    simp only [List.length_cons, Nat.add_le_add_iff_right] at h
    cases a <;> simp [outsE, outsE_len h]
theorem outsE_get : ∀ {as es : Env} (i : Nat), as.length ≤ es.length → getE (outsE as es) i = if lockOf as i then getE es i else .no
  | [], es, i, _ => by
    have e : outsE [] es = [] := by cases es <;> rfl
    rw [e, getE_nil]
    unfold lockOf
    rw [getE_nil]; rfl
  | a :: as, [], i, h => by simp at h
  | a :: as, e :: es, 0, h => by
    unfold lockOf
    rw [getE_cons_zero, getE_cons_zero]
    cases a <;> simp [outsE, getE_cons_zero]
  | a :: as, e :: es, i + 1, h => by
    simp only [List.length_cons, Nat.add_le_add_iff_right] at h
    have := outsE_get (as := as) (es := es) i h
    unfold lockOf at this ⊢
    rw [getE_cons_succ, getE_cons_succ]
    cases a <;> simp only [outsE, getE_cons_succ] <;> exact this
theorem St_pad {vs : List V} {as : Env} (S : M.St as (vs.map some) F G H) (n m : Nat) (hn : n = m) : M.St (as ++ List.replicate n .no) (vs.map some ++ List.replicate m none) F G H := by
  subst hn
  have hl : as.length = vs.length := by have := S.len; simpa using this
  have get : ∀ i, getE (as ++ List.replicate n .no) i = getE as i := fun i => by
    unfold getE List.getD
    by_cases hi : i < as.length
    · rw [List.getElem?_append_left hi]
    · rw [List.getElem?_append_right (by omega), List.getElem?_eq_none (l := as) (by omega)]
      by_cases h2 : i - as.length < n
      · rw [List.getElem?_replicate_of_lt h2]; rfl
      · rw [List.getElem?_eq_none (by simp; omega)]
  have lt : ∀ i d, getE as i = .ow d ∨ getE as i = .fz d → i < as.length := fun i d h => by
    by_cases hi : i < as.length
    · exact hi
    · unfold getE List.getD at h
      rw [List.getElem?_eq_none (by omega)] at h
      rcases h with h | h <;> cases h
  refine ⟨S.fh, S.gh, S.fg, by simp [hl], fun i => ?_, fun i j a hij h1 h2 => ?_⟩
  · have q := S.ent i
    rw [get]
    cases e : getE as i with
    | no => trivial
    | fz d =>
      rw [e] at q
      have hi := lt i d (.inr e)
      rw [List.getElem?_append_left (by simp; omega)]
      exact q
    | ow d =>
      rw [e] at q
      have hi := lt i d (.inl e)
      rw [List.getElem?_append_left (by simp; omega)]
      exact q
  · have back : ∀ {i : Nat}, Owns (as ++ List.replicate n .no) (vs.map some ++ List.replicate n none) i a → Owns as (vs.map some) i a := fun {i} ⟨⟨d, e⟩, ea⟩ => by
      rw [get] at e
      have hi := lt i d (.inl e)
      rw [List.getElem?_append_left (by simp; omega)] at ea
      exact ⟨⟨d, e⟩, ea⟩
    exact S.sep i j a hij (back h1) (back h2)
theorem St_outs {vs : List V} {as env' : Env} {σ' : L2.St} {n : Nat} (hv : as.length = vs.length) (hle : as.length ≤ env'.length) (S : M.St env' σ' F G H) (kp : Kept (lockOf as) (vs.map some ++ List.replicate n none) σ') : M.St (outsE as env') (vs.map some) F G H ∧ ∀ i a, Owns (outsE as env') (vs.map some) i a → Owns env' σ' i a := by
  have lt : ∀ i, lockOf as i = true → i < as.length := fun i h => by
    by_cases hi : i < as.length
    · exact hi
    · unfold lockOf getE List.getD at h
      rw [List.getElem?_eq_none (by omega)] at h
      cases h
  have slot : ∀ i, lockOf as i = true → σ'[i]? = (vs.map some)[i]? := fun i h => by
    rw [kp.2 i h, List.getElem?_append_left (by have := lt i h; simp; omega)]
  have own : ∀ i a, Owns (outsE as env') (vs.map some) i a → Owns env' σ' i a := fun i a ⟨⟨d, e⟩, ea⟩ => by
    rw [outsE_get i hle] at e
    cases hl : lockOf as i with
    | false => rw [hl] at e; cases e
    | true =>
      rw [hl] at e
      exact ⟨⟨d, e⟩, by rw [slot i hl]; exact ea⟩
  refine ⟨⟨S.fh, S.gh, S.fg, by rw [outsE_len hle]; simp [hv], fun i => ?_, fun i j a hij h1 h2 => S.sep i j a hij (own i a h1) (own j a h2)⟩, own⟩
  rw [outsE_get i hle]
  cases hl : lockOf as i with
  | false => trivial
  | true =>
    have q := S.ent i
    rw [slot i hl] at q
    exact q
/-- the names that a def's own block binds -/
def locOf (sc : Scope) (x : Str) : Bool := match sc.names.lookup x with
  | some .local => true
  | some .cell => true
  | _ => false
def plcOf (N : List Str) (sc : Scope) : Plc := ⟨N, sc, locOf sc, true⟩
/-- THE RULE for a def -/
theorem fn_ok {f : Nat} {Fn : IFun} {x qual : Str} {st : Stmt} {fa : Addr} {fd : FuncData} {N ps : List Str} (Fu : Fun M.K x qual st fa fd) (hf : M.T.fn f = some Fn) (hn : Fn.nat = none) (S : FnScope N ps (defScope st)) (hN : N.length = Fn.ns) (hps : ps.length = Fn.np) (hle : Fn.np ≤ Fn.ns)
    (hb : ∀ lk, SSs M k (plcOf N (defScope st)) lk Fn.fresh (defBody st) Fn.body) : FnOk M.P M.w M.K M.mg M.base (L2.CX M.P M.w) (k + 1) fa fd ps (spF M (k + 1) f) := by
  refine Fu.okX S (fun vs H Q E h => ?_) (fun cdv A outer s H vs Q E hr h => ⟨_, pssS _ _, ?_⟩)
  · obtain ⟨Fn', as, F, G, hf', hl, _⟩ := h
    rw [hf] at hf'
    cases hf'
    rw [hl, hps]
  · obtain ⟨Fn', as, F, G, hf', hl, S0, hp⟩ := h
    rw [hf] at hf'
    cases hf'
    have hal : as.length = Fn.np := by have := S0.len; simpa [hl] using this
    have hav : as.length = vs.length := by omega
    have g : Good M k (plcOf N (defScope st)) (fun cls d _ H => E cls d H) (cxOf (L2.CX M.P M.w) M.P M.w M.K M.mg M.base N qual (defScope st) fa cdv A outer s H E) := by
      refine ⟨rfl, rfl, rfl, rfl, rfl, rfl, S.nd, rfl, rfl, hr, takes_of rfl rfl rfl rfl, passes_of rfl, fun y hy => ?_, fun _ => ⟨rfl, rfl, rfl⟩⟩
      have hy : locOf (defScope st) y = true := hy
      unfold locOf at hy
      split at hy
      · rename_i e; exact ⟨.inl e, .inr e⟩
      · rename_i e; exact ⟨.inr e, .inl rfl⟩
      · cases hy
    have S1 : M.St (as ++ List.replicate (Fn.ns - Fn.np) .no) (start N vs) F G H := St_pad S0 _ _ (by omega)
    refine hb (lockOf as) _ _ g _ (start N vs) F G H _ S1 ?_
    rw [callF, hf] at hp
    simp only [R.of_some, R.bind_ok, hal, if_true, hn] at hp
    cases hr : evSs M.T (callF M.T k) (lockOf as) Fn.body (as ++ List.replicate (Fn.ns - Fn.np) .no) with
    | no => rw [hr] at hp; exact hp
    | ex c fs e =>
      rw [hr] at hp
      intro cls dd σ' F' H' x' S' _ xo
      exact hp cls dd F' H' x' ⟨S'.fh, S'.gh, S'.fg, rfl, fun i => by rw [getE_nil]; trivial, fun i j b _ h1 _ => by
        obtain ⟨⟨d, e⟩, _⟩ := h1
        rw [getE_nil] at e; cases e⟩ xo
    | ok q =>
      rw [hr] at hp
      simp only at hp
      intro σ' F' H' x' S' kp
      have hle2 : as.length ≤ q.2.length := by
        have h1 := S'.len
        have h2 := kp.1
        have h3 : (L2.start N vs).length = N.length := by
          unfold L2.start
          simp; omega
        omega
      obtain ⟨So, own⟩ := St_outs (n := N.length - vs.length) hav hle2 S' kp
      cases hq : q.1 with
      | next =>
        rw [hq] at hp
        cases hfr : Fn.fresh with
        | true => rw [hfr] at hp; exact hp.elim
        | false =>
          rw [hfr] at hp
          have := hp F' H' x' So
          exact this .non .non
      | brk => rw [hq] at hp; exact hp.elim
      | cont => rw [hq] at hp; exact hp.elim
      | ret d =>
        rw [hq] at hp
        have := hp F' H' x' So
        unfold PR at this
        show PRt M Fn.fresh G q.2 σ' Q d F' H'
        unfold PRt
        split at this
        · rename_i hfr
          rw [if_pos hfr]
          exact fun a fa ga no oa => this a fa ga (fun i h => no i (own i a h)) oa
        · rename_i hfr
          rw [if_neg hfr]
          exact this
end
end IV

set_option linter.all false
set_option Elab.async false
set_option maxRecDepth 100000
set_option maxHeartbeats 4000000
/-! IVs: sets of texts, and sorted of them (own work). -/
namespace IV
open PySem L2 PySem.Spec PyProof.Rows PySem.Froz

/-- the set at a holds the texts l, each once; its table is walked from left to right -/
structure TxS (P : Program) (w : World) (h : Heap) (a : Addr) (l : List Str) (D : SD) : Prop where
  ob : h.get? a = some (sObj "set" D)
  ok : TxOk P w D l
  nd : l.Nodup
  ris : Ris D.2.2.place.toList
  led : w.params.followText "set-order" = true ∨ D.2.2.led = true
section
variable {P : Program} {w : World} {A : Around} {E : Value → Shared → Prop} {s : Shared} {a : Addr} {l : List Str} {D : SD}
theorem tail_ris {ep : Nat} {es : Array (Int × Value)} {t : SetTable} {b : Bool} (r : Ris t.place.toList) : Ris (tailTx ep es t b).2.2.place.toList := by
  unfold tailTx
  split
  · exact relayAll_ris _ _ _
  · exact r
theorem tail_led {ep : Nat} {es : Array (Int × Value)} {t : SetTable} {b : Bool} : (tailTx ep es t b).2.2.led = t.led := by
  unfold tailTx
  split
  · exact relayAll_led _ _ _
  · rfl
theorem addTx_ris (h : Int) (v : Value) (r : Ris D.2.2.place.toList) : Ris (addTx h v D).2.2.place.toList := by
  have q := layNew_ris D.2.2 D.1 h v r
  unfold addTx
  refine tail_ris ?_
  split
  · exact q
  · exact q
theorem addTx_led (h : Int) (v : Value) : (addTx h v D).2.2.led = D.2.2.led := by
  have q := layNew_led D.2.2 D.1 h v
  unfold addTx
  rw [tail_led]
  split
  · exact q
  · exact q
/-- a text comes into the set -/
theorem txs_add {k : Str} {u : Tok} {Q : Bool → Shared → Prop} (R : TxS P w s.heap a l D) (hb : l.length + 1 < scanBound)
    (hQ : ∀ b h' l' D', Heap.SameBut a s.heap h' → TxS P w h' a l' D' → (∀ x, x ∈ l' ↔ x = k ∨ x ∈ l) → l'.length ≤ l.length + 1 → Q b { s with heap := h' }) :
    wpAny (model P w) A (setAddHashed a (.str k u) (hashStr w k)) Q E s := by
  by_cases hk : k ∈ l
  · obtain ⟨es, ep, t⟩ := D
    have hd : (sObj "set" (es, ep, t)).data = .set es ep t := rfl
    have hel : ElemsOf (strKind P w) es.toList := R.ok.el
    have hsz : es.size = l.length := R.ok.sz
    have hes : es.size < scanBound := by omega
    have hf : t.fits es.size = true := R.ok.fit
    have key : (strKind P w).is k (.str k u) = true := is_str k u
    obtain ⟨e, he, ee⟩ := (R.ok.mem k).mp hk
    have hsome : ∃ j, List.findIdx? (fun e => (strKind P w).is k e.2) es.toList = some j := by
      cases hr : List.findIdx? (fun e => (strKind P w).is k e.2) es.toList with
      | some j => exact ⟨j, rfl⟩
      | none =>
        have := List.findIdx?_eq_none_iff.mp hr e he
        rw [ee] at this
        cases this
    obtain ⟨j, hj⟩ := hsome
    unfold setAddHashed setAddHashedIn
    refine wpAny_holding (wpAny_bind (wpAny_setState_of R.ob hd hf ?_)); dsimp only
    rw [byScan_of rfl hes hel]; simp only [↓reduceIte]; unfold setAddByScan
    refine wpAny_bind (wpAny_bind (wpAny_rule (wpAny_bind (wpAny_setScan_of (knd := strKind P w) (k := k) key R.ob hd hf hel ?_))))
    rw [hj]; dsimp only
    refine wpAny_pure (wpAny_pure ?_)
    exact hQ _ s.heap l _ (Heap.SameBut.refl a s.heap) R (fun x => ⟨.inr, fun z => z.elim (fun e => e ▸ hk) id⟩) (Nat.le_succ _)
  · refine add_x R.ob R.ok hk hb (hQ _ _ (k :: l) _ (Heap.SameBut.update _ a _) ⟨?_, add_ok u R.ok, List.nodup_cons.mpr ⟨hk, R.nd⟩, addTx_ris _ _ R.ris, ?_⟩ (fun x => by simp) (by simp))
    · exact get_upd _ R.ob rfl
    · exact R.led.imp id fun z => by rw [addTx_led]; exact z
theorem TxS.at {h h' : Heap} (R : TxS P w h a l D) (k : ∀ o, h.get? a = some o → h'.get? a = some o) : TxS P w h' a l D := ⟨k _ R.ob, R.ok, R.nd, R.ris, R.led⟩
theorem txs_new {h : Heap} (ho : h.get? a = some { cls := .type "set", dict := none, data := .set #[] 0 (.fresh 0 0 (!w.params.followText "set-order")) }) : TxS P w h a [] (#[], 0, .fresh 0 0 (!w.params.followText "set-order")) where
  ob := ho
  ok := TxOk.nil rfl
  nd := List.nodup_nil
  ris := List.Pairwise.nil
  led := by
    show _ ∨ (!w.params.followText "set-order") = true
    cases w.params.followText "set-order" <;> simp
/-- the loop by which set(..) fills a set -/
theorem txs_loop {I S : Addr} {fp wr : List Addr} {G : Array GenState → Array GenState → Prop} {n : Nat} {Pv : Nat → Value → Prop} {Sx : Nat → Shared → Prop} {R : Result → Shared → Prop} (W : WalksS P w A.in1 I fp wr G n Pv Sx) (hSf : S ∉ fp)
    (xs : List Str) (hn : n = xs.length) (hb : xs.length + 1 < scanBound) (hval : ∀ i v, Pv i v → ∃ k t, xs[i]? = some k ∧ v = .str k t) :
    ∀ (m i : Nat) (s : Shared) (l : List Str) (D : SD), n - i = m → i ≤ n → Sx i s → TxS P w s.heap S l D → (∀ x, x ∈ l ↔ x ∈ xs.take i) → l.length ≤ i →
      (∀ s' l' D', Moved (S :: wr) G s s' → TxS P w s'.heap S l' D' → (∀ x, x ∈ l' ↔ x ∈ xs) → l'.length ≤ n → R (.ok (.ret .none)) s') →
      codeAny (model P w) A (.builtin "set.update.loop" ⟨[.ref S, .ref I], []⟩) R s := by
  have nS : S ∉ wr := fun z => hSf (W.sub _ z)
  have up : ∀ b ∈ wr, b ∈ S :: wr := fun _ z => List.mem_cons_of_mem _ z
  intro m
  induction m with
  | zero =>
    intro i s l D hm hi hst hS hl hle hR
    obtain rfl : i = n := by omega
    refine codeAny_builtin F.entry_set_update_loop ?_
    rw [Around.under_plainId F.plain_set_update_loop _]
    refine wpAny_bind (m := pyNext (.ref I)) (W.done s _ _ hst fun s' mv => ?_)
    rw [List.take_of_length_le (by omega)] at hl
    exact wpAny_pure (hR s' l D (mv.mono up) (hS.at fun o e => mv.heap S o nS e) hl hle)
  | succ m ih =>
    intro i s l D hm hi hst hS hl hle hR
    have hlt : i < n := by omega
    refine codeAny_builtin F.entry_set_update_loop ?_
    rw [Around.under_plainId F.plain_set_update_loop _]
    refine wpAny_bind (m := pyNext (.ref I)) (W.item i s _ _ hlt hst fun v s' hP hst' mv => ?_)
    obtain ⟨x, t, hx, rfl⟩ := hval i v hP
    have hS' : TxS P w s'.heap S l D := hS.at fun o e => mv.heap S o nS e
    refine wpAny_bind (m := holding [Value.str x t] (setAdd S (.str x t))) (wpAny_holding ?_)
    unfold setAdd
    refine wpAny_holding (wpAny_bind ((strKind P w).pyHash (k := x) (is_str x t) ?_))
    refine txs_add (s := { s' with toks := s'.toks + 1 }) hS' (by omega) fun b h' l' D' sb hS2 hl' hle' => ?_
    refine wpAny_pure ⟨plainId_quiet F.plain_set_update_loop _, ih (i + 1) _ l' D' (by omega) hlt (W.frame _ s' _ _ hst' (Nat.le_succ _) fun b hb o e => ?_) hS2 (fun y => ?_) (by omega) fun s'' l'' D'' mv' hS'' hl'' hle'' => ?_⟩
    · rw [sb.2 b (fun z => hSf (z ▸ hb))]; exact e
    · rw [hl' y, hl y, List.take_add_one, hx]; simp [or_comm]
    · refine hR s'' l'' D'' (Moved.trans W.gtrans ((mv.mono up).then_heap (Nat.le_succ _) fun b o hb e => ?_) mv') hS'' hl'' hle''
      rw [sb.2 b (fun z => hb (z ▸ List.mem_cons_self))]; exact e

abbrev set0 (w : World) : Obj := { cls := .type "set", dict := none, data := .set #[] 0 (.fresh 0 0 (!w.params.followText "set-order")) }
set_option maxHeartbeats 3200000 in
/-- set(xs), xs a list of texts -/
theorem call_set_txt {L : Addr} {items : Array Value} (xs : List Str) {Q : Value → Shared → Prop} (hh : A.handled = none) (hl : s.heap.IsList L items) (hit : StrsAre items.toList xs) (hb : xs.length + 1 < scanBound)
    (h : ∀ (h' : Heap) (tk : Nat) (l : List Str) (D : SD), TxS P w h' s.heap.objs.size l D → (∀ x, x ∈ l ↔ x ∈ xs) → l.length ≤ xs.length → (∀ b o, s.heap.get? b = some o → h'.get? b = some o) → Q (.ref s.heap.objs.size) { s with heap := h', toks := tk }) :
    wpAny (model P w) A (call (.type "set") [.ref L]) Q E s := by
  have hsz : items.size = xs.length := by rw [← StrsAre.len_eq hit, Array.length_toList]
  obtain ⟨mc, mt, hmro⟩ := F.called_set.mro
  have made := F.called_set.made
  have sub := F.called_set.sub
  refine wpAny_call (codeAny_of_tree ?_)
  show wpAny _ _ (callAny (.type "set") _) _ _ _
  refine wpAny_pure ⟨Code.quiet_builtin _ (by decide +kernel), codeAny_builtin F.entry_type_call ?_⟩; rw [Around.under_plain (weight_type_call_type "set" [.ref L] []) rfl]
  have g1 := F.called_set.notType
  have g2 := F.called_set.canCreate
  have g3 := F.typeCall_set_1 (.ref L)
  repeat (any_goals (first | assumption | wp_step))
  refine codeAny_mono (code_set_led1 (.ref L) (E := E) (Q₁ := fun ob s1 => ob = .ref s.heap.objs.size ∧ s1 = { s with heap := s.heap.push (set0 w) }) ⟨rfl, rfl⟩) fun r s1 hr => ?_
  cases r with
  | error e => exact hr
  | ok fl =>
    cases fl with
    | ret ob =>
      obtain ⟨rfl, rfl⟩ := hr
      have hS : (s.heap.push (set0 w)).get? s.heap.objs.size = some (set0 w) := Heap.get?_push_size _ rfl
      have hT : Shared.TypeIs { s with heap := s.heap.push (set0 w) } (.ref s.heap.objs.size) "set" := ⟨_, hS, rfl⟩
      have lk := F.called_set.init.lookup
      have bd := F.called_set.init.bind (.ref s.heap.objs.size)
      repeat (any_goals (first | assumption | wp_step))
      refine codeAny_mono (codeAny_call_builtin (R := wants (fun r s2 => r = .none ∧ ∃ h' tk l D, s2 = { s with heap := h', toks := tk } ∧ TxS P w h' s.heap.objs.size l D ∧ (∀ x, x ∈ l ↔ x ∈ xs) ∧ l.length ≤ xs.length ∧ (∀ b o, s.heap.get? b = some o → h'.get? b = some o)) E)
        F.called_set.init.plain F.entry_set_init (check_set_init_1 hT ?_)) fun r2 s2 hr2 => ?_
      · obtain ⟨⟨cls, dct, dat, slt⟩, hol, hcl, nl, hdl⟩ := hl
        simp only at hcl hdl
        subst hcl hdl
        have hol' : (s.heap.push (set0 w)).get? L = some { cls := .type "list", dict := dct, data := .seq items nl, slots := slt } := Heap.get?_push_of_some _ hol
        have n1 := F.sub_list_set
        have n2 := F.sub_list_frozenset
        have n3 : (Value.type "list" == Value.type "dict") = false := by decide
        have hl1 : (s.heap.push (set0 w)).IsList L items := ⟨_, hol', rfl, nl, rfl⟩
        unfold Builtin.«set.__init__» noKeywords Builtin.Frozenset.updateFrom
        generalize ePI : pyIter = PI
        wp_walk
        subst ePI
        refine wpAny_pyIter_list hl1 ?_
        refine wpAny_bind (wpAny_runValue ?_)
        have hlS : L < s.heap.objs.size := Heap.lt_size hol
        have sz1 : (s.heap.push (set0 w)).objs.size = s.heap.objs.size + 1 := Heap.size_push ..
        have hneI : L ≠ (s.heap.push (set0 w)).objs.size := by rw [sz1]; exact Nat.ne_of_lt (Nat.lt_succ_of_lt hlS)
        refine txs_loop (S := s.heap.objs.size) ((Walks.list (show A.in1.in1.in1.handled = none by simp [hh]) _ L hneI items).toS) (by rw [sz1]; simp only [List.mem_cons, List.not_mem_nil, or_false, not_or]; exact ⟨Nat.ne_of_lt (Nat.lt_succ_self _), Nat.ne_of_gt hlS⟩) xs hsz hb (fun i v hv => ?_) (items.size - 0) 0 _ [] _ (by omega) (Nat.zero_le _)
          ⟨⟨_, Heap.get?_push_size _ rfl, rfl, rfl⟩, (hl1.push _)⟩ (txs_new (Heap.get?_push_of_some _ hS)) (fun x => by simp) (Nat.le_refl _) fun s' l' D' mv hS' hl' hle' => ?_
        · have hi : i < xs.length := by rw [← hsz]; exact (Array.getElem?_eq_some_iff.mp hv).1
          obtain ⟨t, e⟩ := SS.strs_at hit i v (by rw [Array.getElem?_toList]; exact hv)
          exact ⟨xs[i], t, List.getElem?_eq_getElem hi, by rw [e, List.getD_eq_getElem?_getD, List.getElem?_eq_getElem hi]; rfl⟩
        · obtain ⟨h', gs, dr, tk, os⟩ := s'
          obtain rfl : gs = s.gens := mv.gens
          obtain rfl : dr = s.drawn := mv.drawn
          obtain rfl : os = s.os := mv.os
          refine wpAny_pure ?_
          show wpAny _ _ (ret Value.none) _ _ _
          refine wpAny_pure ⟨rfl, h', tk, l', D', rfl, hS', hl', by omega, fun b o e => ?_⟩
          have hb0 : b < s.heap.objs.size := Heap.lt_size e
          refine mv.heap b o ?_ (Heap.get?_push_of_some _ (Heap.get?_push_of_some _ e))
          rw [sz1]; simp only [List.mem_cons, List.not_mem_nil, or_false, not_or]
          exact ⟨Nat.ne_of_lt hb0, Nat.ne_of_lt (Nat.lt_succ_of_lt hb0)⟩
      · cases r2 with
        | error e => exact hr2
        | ok fl2 =>
          cases fl2 with
          | ret r =>
            obtain ⟨rfl, h', tk, l', D', rfl, hS', hl', hle', hk'⟩ := hr2
            repeat (any_goals (first | assumption | wp_step))
            exact h _ _ _ _ hS' hl' hle' hk'
          | _ => exact hr2.elim
    | _ => exact hr.elim
end
end IV

set_option linter.all false
set_option Elab.async false
set_option maxRecDepth 100000
set_option maxHeartbeats 4000000
/-! IVt: set and sorted of texts as rules (own work). -/
namespace IV
open PySem L2 PySem.Spec PyProof.Rows PySem.Froz
theorem perm_of_sub {α : Type} [DecidableEq α] : ∀ {l k : List α}, l.Nodup → (∀ x ∈ l, x ∈ k) → k.length ≤ l.length → k.Perm l
  | [], k, _, _, h => by
    have : k = [] := List.eq_nil_of_length_eq_zero (by simpa using h)
    rw [this]
  | x :: l, k, nd, hs, h => by
    have hx := hs x List.mem_cons_self
    have hp := List.perm_cons_erase hx
    rw [List.nodup_cons] at nd
    refine hp.trans (List.Perm.cons _ (perm_of_sub nd.2 (fun y hy => ?_) ?_))
    · exact (List.mem_erase_of_ne (fun z : y = x => nd.1 (by rw [← z]; exact hy))).mpr (hs y (List.mem_cons_of_mem _ hy))
    · rw [List.length_erase_of_mem hx]; simp at h; omega
/-- a set of texts, as a thing of the abstract heap -/
def TxO (P : Program) (w : World) (a : Addr) (l : List Str) : HO := .ext fun h => ∃ D, TxS P w h a l D
section
variable {X : Cx}
theorem txO_new {P : Program} {w : World} {H : Hp} {h : Heap} {a : Addr} {l : List Str} {D : SD} (R : TxS P w h a l D) : ObjOk P w H h a (TxO P w a l) :=
  ⟨⟨D, R⟩, ⟨_, R.ob⟩, fun _ _ ⟨D', R'⟩ k => ⟨D', R'.at k⟩⟩
/-- set(xs) -/
def rSetX (K : PySem.W.Frag) (P : Program) (w : World) : List V → Hp → VK → Prop := fun vs H Q => ∃ (p : Addr) (xs : List Str), vs = [.ref p] ∧ SqL K H p (xs.map V.str) ∧ xs.length < 64 ∧
  ∀ a l, H a = none → l.Nodup → (∀ x, x ∈ l ↔ x ∈ xs) → l.length ≤ xs.length → Q (.ref a) (upd H a (TxO P w a l))
theorem cr_setX (hc : X.calm = true) : CallR X (.type "set") (rSetX X.K X.prog X.w) := by
  intro pins s σ H vs us Q I r h
  obtain ⟨p, xs, rfl, hl, hf, q⟩ := h
  rw [Vals.ref1 r]
  obtain ⟨its, rv, pl, hz⟩ := I.list hl
  refine call_set_txt (P := X.prog) (w := X.w) xs (I.ok.hd hc) pl.isList (by simpa using Vals.strs rv) (by unfold scanBound; omega) fun h' tk l D R hm hle k => ?_
  exact ⟨.ref s.heap.objs.size, _, I.laid (t' := tk) k (Nat.le_refl _) (txO_new R), rfl, q _ l (I.hok.fresh (Nat.le_refl _)) R.nd hm hle⟩
/-- sorted(a set of texts) -/
def rSortX (P : Program) (w : World) : List V → Hp → VK → Prop := fun vs H Q => ∃ (a : Addr) (l : List Str), vs = [.ref a] ∧ H a = some (TxO P w a l) ∧ l.length < 64 ∧
  ∀ ys p, ys.Perm l → sortedS ys = true → H p = none → Q (.ref p) (upd H p (.lst (ys.map V.str)))
theorem str_of_is {P : Program} {w : World} {x : Str} {v : Value} (h : (strKind P w).is x v = true) : ∃ t, v = .str x t := Value.isStrOf_shape h
theorem cr_sortX (hc : X.calm = true) : CallR X (.builtin "sorted") (rSortX X.prog X.w) := by
  intro pins s σ H vs us Q I r h
  obtain ⟨a, l, rfl, ha, h64, q⟩ := h
  rw [Vals.ref1 r]
  obtain ⟨⟨es, ep, t⟩, R⟩ : ∃ D, TxS X.prog X.w s.heap a l D := (I.hok a _ ha).1
  have hsz : es.size = l.length := R.ok.sz
  refine Calls.call_function_entry PyProof.Rows.kind_sorted PyProof.Rows.plain_sorted PyProof.Rows.entry_sorted (PyProof.Rows.args_sorted1 _) ?_
  unfold Builtin.«sorted»
  refine wpAny_bind (m := checkCount "sorted" 1 1 _) (wpAny_pure ?_); have hsc : es.size < scanBound := (by unfold scanBound; omega)
  refine wpAny_bind (collect_set (A := X.A.in1) (es := es) (ep := ep) (t := t) (I.ok.hd hc) ⟨_, R.ob, rfl, rfl⟩ R.ok.fit hsc R.ris R.led fun s1 vs k1 hz g1 o1 pm => ?_)
  have hvl : vs.length = l.length := by rw [pm.length_eq, List.length_map, Array.length_toList]; exact hsz
  obtain ⟨ks, hS, hks⟩ : ∃ ks, StrsAre vs ks ∧ ks.Perm l := by
    have each : ∀ vs : List Value, (∀ v ∈ vs, ∃ x t, v = .str x t ∧ x ∈ l) → ∃ ks, StrsAre vs ks ∧ (∀ x ∈ ks, x ∈ l) ∧ ∀ x t, Value.str x t ∈ vs → x ∈ ks := by
      intro vs
      induction vs with
      | nil => exact fun _ => ⟨[], .nil, by simp, by simp⟩
      | cons v vs ih =>
        intro hv
        obtain ⟨x, t, rfl, hx⟩ := hv v List.mem_cons_self
        obtain ⟨ks, h1, h2, h3⟩ := ih fun u hu => hv u (List.mem_cons_of_mem _ hu)
        refine ⟨x :: ks, .cons x t h1, fun y hy => ?_, fun y t' hy => ?_⟩
        · rcases List.mem_cons.mp hy with rfl | z
          · exact hx
          · exact h2 y z
        · rcases List.mem_cons.mp hy with z | z
          · cases z; exact List.mem_cons_self
          · exact List.mem_cons_of_mem _ (h3 y t' z)
    have back : ∀ v ∈ vs, ∃ e ∈ es.toList, e.2 = v := fun v hv => by
      obtain ⟨e, he, q⟩ := List.mem_map.mp (pm.mem_iff.mp hv)
      exact ⟨e, he, q⟩
    obtain ⟨ks, h1, h2, h3⟩ := each vs fun v hv => by
      obtain ⟨e, he, rfl⟩ := back v hv
      obtain ⟨⟨x, hx, _⟩, _⟩ := R.ok.el e he
      obtain ⟨t, et⟩ := str_of_is hx
      exact ⟨x, t, et, (R.ok.mem x).mpr ⟨e, he, hx⟩⟩
    refine ⟨ks, h1, ?_⟩
    have sub : ∀ x ∈ l, x ∈ ks := fun x hx => by
      obtain ⟨e, he, z⟩ := (R.ok.mem x).mp hx
      obtain ⟨t, et⟩ := str_of_is z
      exact h3 x t (pm.mem_iff.mpr (List.mem_map.mpr ⟨e, he, et⟩))
    have hlen : ks.length = l.length := by rw [← StrsAre.len_eq h1]; exact hvl
    exact perm_of_sub R.nd sub (by omega)
  have hvz : vs.length ≤ sizeLine := by rw [hvl, sizeLine_eq]; omega
  refine wpAny_bind (wpAny_newList ?_ hvz)
  have hoL : (s1.heap.push (seqObj "list" vs.toArray 0)).get? s1.heap.objs.size = some (seqObj "list" vs.toArray 0) := Heap.get?_push_size _ rfl
  show wpAny _ _ _ _ _ { s1 with heap := s1.heap.push (seqObj "list" vs.toArray 0) }
  refine wpAny_bind (wpAny_holding (wpAny_call_entry PyProof.Rows.slot_list_sort (s := { s1 with heap := s1.heap.push (seqObj "list" vs.toArray 0) }) ⟨_, hoL, rfl⟩ PyProof.Rows.entry_list_sort
    (list_sort_treeK strKind_oneLt (s := { s1 with heap := s1.heap.push (seqObj "list" vs.toArray 0) }) hoL hS.keysOf (fun v1 v2 rest e => keyKind_strs (by rw [← e]; exact hS)) (by rw [hvl]; exact h64) fun st' hp hs => ⟨_, rfl, ?_⟩) (PyProof.Rows.args_list_sort _)))
  obtain ⟨ys, e1, e2, e3⟩ := sorted_out_str hS hp hs
  obtain ⟨c, hc'⟩ := sortedHeap_at (vs := vs) (out := (arrOf st').map (·.2)) hoL
  have pl : ys.Perm l := e2.trans hks
  have hlen : (ys.map V.str).length ≤ sizeLine := by rw [List.length_map, pl.length_eq, sizeLine_eq]; omega
  have hn : H s1.heap.objs.size = none := I.hok.fresh hz
  have k2 : ∀ b o, s.heap.get? b = some o → (sortedHeap (s1.heap.push (seqObj "list" vs.toArray 0)) s1.heap.objs.size vs ((arrOf st').map (·.2))).get? b = some o := fun b o e => by
    have z := k1 b o e
    have hlt := Heap.lt_size z
    rw [sortedHeap_old (Nat.ne_of_lt hlt) (by rw [size_push']; exact Nat.lt_succ_of_lt hlt)]
    exact Heap.get?_push_of_some _ z
  have fin : ∀ (hN : Heap) (out : Array Value), (∀ b o, s.heap.get? b = some o → hN.get? b = some o) → hN.get? s1.heap.objs.size = some (seqObj "list" out c) → StrsAre out.toList ys → EP X pins σ Q (.ref s1.heap.objs.size) { s1 with heap := hN } := fun hN out kN gN sN => by
    have e : ({ s1 with heap := hN } : Shared) = { s with heap := hN, gens := s1.gens, drawn := s1.drawn, toks := s1.toks } := by
      cases s1; cases s; cases o1; rfl
    rw [e]
    refine ⟨.ref s1.heap.objs.size, _, I.call (ch := []) (Un.laid kN hz hn) (I.hok.laid kN hz (o := .lst (ys.map V.str)) ⟨hlen, out.toList, c, vals_of_strs sN, by rw [Array.toArray_toList]; exact gN⟩) (by rw [g1]; exact I.bare) (fun _ z => nomatch z), rfl, q ys _ pl e3 hn⟩
  exact wpAny_pure ⟨_, rfl, fin _ _ k2 hc' e1⟩
end
end IV

set_option linter.all false
set_option Elab.async false
set_option maxRecDepth 100000
set_option maxHeartbeats 4000000
/-! IVx: exceptions: made without arguments, and kept behind their try (own work). -/
namespace IV
open PySem L2 PySem.Spec PyProof.Rows

section
variable {X : Cx} {pins : List (Addr × Obj)} {σ : L2.St} {H : Hp} {s : Shared}
/-- an object that came behind the entry can be tracked from now on -/
theorem Inv.track {a : Addr} {oe : Obj} {vs : Array Value} {cls : Value} {d : Option Addr} (I : Inv X pins σ H s) (ha : s.heap.get? a = some oe) (hz : Zc cls d oe) (hd : oe.data = .fields vs) (na : H a = none)
    (new : X.s_0.heap.get? a = none) (nL : a ≠ X.env.locals) (nP : ∀ p ∈ X.pn ++ pins, p.1 ≠ a) : Inv X pins σ (upd H a (ExV cls d a)) s := by
  have nC : ∀ x c, X.env.cells.lookup x = some c → c ≠ a := fun x c e z => by
    obtain ⟨v, o, ho, hc⟩ := I.cell x c e
    rw [z, ha] at ho
    cases ho
    simp_all
  refine ⟨I.ok, I.os, I.bare, ⟨I.base.keep, I.base.slot, fun b o e n hx => ?_, I.base.there, fun b xs e => ?_, fun b o u e => ?_, fun b ps e => ?_⟩, I.loc, I.cell, ?_, fun x c e => ?_, fun p hp => ?_, fun b o e => ?_, I.len⟩
  · rw [upd_ne (fun z => by rw [z, new] at e; cases e)]; exact I.base.free b o e n hx
  · have q := I.base.tups b xs e
    rw [upd_ne (fun z => by rw [z, na] at q; cases q)]; exact q
  · have q := I.base.frzs b o u e
    rw [upd_ne (fun z => by rw [z, na] at q; cases q)]; exact q
  · obtain ⟨m, q⟩ := I.base.tbls b ps e
    exact ⟨m, by rw [upd_ne (fun z => by rw [z, na] at q; cases q)]; exact q⟩
  · rw [upd_ne (Ne.symm nL)]; exact I.free
  · rw [upd_ne (nC x c e)]; exact I.freeC x c e
  · obtain ⟨q1, q2, q3⟩ := I.pin p hp
    exact ⟨q1, by rw [upd_ne (nP p hp)]; exact q2, q3⟩
  · by_cases hb : b = a
    · subst hb
      rw [upd_same] at e
      cases e
      exact ⟨⟨oe, vs, ha, hz, hd⟩, ⟨oe, ha⟩, fun _ _ ⟨o, v, h1, h2⟩ k => ⟨o, v, k o h1, h2⟩⟩
    · rw [upd_ne hb] at e
      have ne : ∀ b' u, H b' = some u → b' ≠ a := fun b' u q z => by rw [z, na] at q; cases q
      exact (I.hok b o e).stay (fun _ _ _ q => q) (fun b' q => by rw [upd_ne (ne b' _ q)]; exact q) (fun b' xs q => by rw [upd_ne (ne b' _ q)]; exact q)
end
/-- X(), X an own exception class without own __init__ -/
theorem pmk_own0 {X : Cx} {C : Addr} {bmB : List Value} {B newId initId : String} {x : Str} {p pos : Pos} (Fb : ExcBaseFacts B newId initId bmB) (hx : PySem.W.excIn X.K C bmB newId = true) (gC : X.mg x = some (.ref C)) (kC : PySem.W.keepIn X.K (.ref C) = true) (r : Raises X (.ref C)) (hg : Gl X x) (hdb : (x == ("__debug__" : Str)) = false) :
    PMk X (.Call (.Name x p) [] [] pos) (fun _ H Q => Q (.ref C) none H) := by
  intro pins s σ H Q I h
  refine wpAny_Call_Name_kw (ld_glob I hg gC (PySem.W.callWith_K0 I.kIn kC ?_) hdb)
  show wpAny _ _ (call (.ref C) []) _ _ _
  obtain ⟨_, _, _, _, _, _, _, _, _, _, _, _, _, _, _, _, _, hC, hN, hni, T⟩ := exc_obj I.kIn hx
  exact wpAny_call_exc_subT Fb T hC hN hni (fun h' e hm => mk_of I hm r h (I.hok.gone hm.new)) (Nat.zero_le _)
/-- what 'except x as n' wishes, where the exception may be kept: slot i is n's -/
def wKp (K : PySem.W.Frag) (c : Value) (i : Nat) (ts : Addr → Value → Option Addr → TS) (Wout : WX) (D : Ends) : WX := fun cls d σ H => ∃ b, PySem.W.exmOne K cls c = some b ∧ (b = false → Wout cls d σ H) ∧
  (b = true → ∀ a, H a = none → ts a cls d ⟨fun σ' H' => H' a = none → D.nx (σ'.set i none) (upd H' a (ExV cls d a)), fun _ _ => False, fun _ _ => False, fun _ _ => False⟩ (σ.set i (some (.ref a))) H)
section
variable {X : Cx} {x n : Str} {c : Value} {i : Nat} {body suite : List Stmt} {b₀ : Stmt} {np pos pos' : Pos} {tb : WX → TS} {ts : Addr → Value → Option Addr → TS} {Wout : WX}
theorem ps_try_keep (hs : X.stack = X.env :: X.outer) (hf : X.env.frame = some X.env.locals) (hex : X.ex = []) (hN : X.N.Nodup) (hi : X.N[i]? = some n) (hln : X.env.kindOf n = some .local) (hc : Names X x c) (tk : Takes X Wout)
    (hb : ∀ (W : WX) (pn : List (Addr × Obj)) (xe : Value → Shared → Prop), Takes (X.tr pn xe) W → PassesOwn (model X.prog X.w) X.A X.env xe → PSs (X.tr pn xe) body (tb W))
    (hsu : ∀ (a : Addr) (oe : Obj) (cls : Value) (d : Option Addr) (pn : List (Addr × Obj)), PSs (X.suite a ((a, oe) :: pn)) (b₀ :: suite) (ts a cls d)) :
    PS X (.Try body [.ExceptHandler (some (.Name x np)) (some n) (b₀ :: suite) pos'] [] [] pos) (fun D σ H => tb (wKp X.K c i ts Wout D) D σ H) := by
  constructor
  intro pins s σ H D I h
  have ok := I.ok
  have fr : X.A.frames = some (X.env :: X.outer) := by rw [ok.frames, hs]
  have hout : ∀ {f : Flow} {s1 : Shared} {xe : Value → Shared → Prop}, SP (X.tr (X.pn ++ pins) xe) [] D f s1 → SP X pins D f s1 := fun {f s1 xe} q => by
    cases f with
    | ret u => obtain ⟨v, σ', H', J, r, q⟩ := q; exact ⟨v, σ', H', J.ofTry ok, r, q⟩
    | next => obtain ⟨σ', H', J, q⟩ := q; exact ⟨σ', H', J.ofTry ok, q⟩
    | brk => obtain ⟨σ', H', J, q⟩ := q; exact ⟨σ', H', J.ofTry ok, q⟩
    | cont => obtain ⟨σ', H', J, q⟩ := q; exact ⟨σ', H', J.ofTry ok, q⟩
  refine wpAny_Try_except (wpAny_mono ((hb (wKp X.K c i ts Wout D) (X.pn ++ pins) (fun e s1 => wpAny (model X.prog X.w) X.A (noteFrame e X.env) (fun _ s2 => wpAny (model X.prog X.w) X.A (setFlight e none) (fun _ s3 => wpAny (model X.prog X.w) X.A
    (handleBy e X.env [.ExceptHandler (some (.Name x np)) (some n) (b₀ :: suite) pos']) (SP X pins D) X.xe s3) X.xe s2) X.xe s1) (fun u s' caught => ?_) PassesOwn.looking).run [] s σ H D (I.toTry _) h) (fun f s1 q => ?_) (fun e s1 he => he))
  · obtain ⟨a, B, sI, pins', σ', H', cls, d, rfl, J', nb, up, sky, na, os, ag, b, hb1, hno, hyes⟩ := caught
    have J : Inv X pins σ' H' sI := J'.ofTry ok
    rw [show (X.tr (X.pn ++ pins) _).stack = X.env :: X.outer from hs] at sky
    show wpAny (model X.prog X.w) X.A (noteFrame (.ref a) X.env) _ _ _
    refine Sky.land Zc.steady fr hf sky fun h3 fl3 up3 => ?_
    have J3 : Inv X pins σ' H' { s' with heap := h3 } := J.landed nb fl3.1 (up.trans up3) os ag
    obtain ⟨oe3, vs3, he3, hz3, hd3⟩ := fl3.there
    have nfr : a ∉ frs (X.env :: X.outer) := fun hm => by
      obtain ⟨_, o', e', nof⟩ := fl3.2.2.1.mem hm
      rw [he3] at e'; cases e'
      exact nof _ hd3
    have nL : a ≠ X.env.locals := fun z => nfr (List.mem_filterMap.mpr ⟨X.env, List.mem_cons_self, by rw [hf, z]⟩)
    have nF : a ∉ X.fs := fun hm => by
      obtain ⟨e, he, z⟩ := List.mem_filterMap.mp hm
      exact nfr (List.mem_filterMap.mpr ⟨e, List.mem_cons_of_mem _ he, z⟩)
    have gone : ∀ b o, sI.heap.get? b = some o → b ∉ frs (X.env :: X.outer) → b ≠ a := fun b o e hm z => by
      have := nb b o e (by rw [show (X.tr (X.pn ++ pins) _).stack = X.env :: X.outer from hs]; exact hm)
      rw [z, fl3.2.1] at this; cases this
    have new : X.s_0.heap.get? a = none := by
      cases z : X.s_0.heap.get? a with
      | none => rfl
      | some o =>
        obtain ⟨o', e'⟩ := J.base.there a o z (by rw [hex]; simp)
        exact absurd rfl (gone a o' e' nfr)
    have nP : ∀ p ∈ X.pn ++ pins, p.1 ≠ a := fun p hp => by
      obtain ⟨q1, _, q3, q4, _⟩ := J.pin p hp
      refine gone _ _ q1 fun hm => ?_
      obtain ⟨e, he, z⟩ := List.mem_filterMap.mp hm
      rcases List.mem_cons.mp he with rfl | he
      · rw [hf] at z; exact q3 (Option.some.inj z).symm
      · exact q4 (List.mem_filterMap.mpr ⟨e, he, z⟩)
    have S3 := J3.suite he3 hd3 na nL nF
    refine wpAny_handleBy_cons (codeAny_handlers_test ?_) (by intro z; cases z)
    have LM := PySem.W.exm_one (M := model X.prog X.w) (J3.kIn) (fun A Q E s k q => wpAny_typeOf_ref (k _ _ he3) (by rw [hz3.1]; exact q)) hb1
    have named : ∀ {Q : Value → Shared → Prop} {E : Value → Shared → Prop}, Q c { s' with heap := h3 } → wpAny (model X.prog X.w) (X.A.mark (some (.ref a))) (eval (.Name x np) X.env) Q E { s' with heap := h3 } := fun {Q E} q => by
      rcases hc with ⟨hg, hdb, hm | ⟨hm, hv, hnn⟩⟩
      · exact ld_glob (X := X.suite a ((a, oe3) :: (X.pn ++ pins))) S3 hg hm q hdb
      · exact ld_blt (X := X.suite a ((a, oe3) :: (X.pn ++ pins))) S3 hg hm hv q hnn hdb
    refine named (LM.here ?_)
    cases b with
    | false =>
      show wpAny _ X.A (handleBy (.ref a) X.env []) _ _ _
      refine wpAny_handleBy_nil ?_
      obtain ⟨_, _, _, oe, vs, T, oT, ts', he, hz, hd, h1, hr⟩ := id fl3
      unfold PySem.passOn
      refine wpAny_bind (wpAny_field he hd h1 ?_); rw [if_neg (show ¬ ((Value.ref T == Value.none) = true) from by simp)]
      have up4 : wpAny (model X.prog X.w) X.A (setFlight (.ref a) X.env.frame) (fun _ s4 => wpAny (model X.prog X.w) X.A (throw (.ref a) : Sem Flow) (SP X pins D) X.xe s4) X.xe { s' with heap := h3 } := by
        rw [hf]
        exact HandSPX.setFlight_upZ fl3 fun h4 hh4 up4 => wpAny_throw (tk _ _ ⟨a, B, sI, pins, σ', H', cls, d, rfl, J, nb, (up.trans up3).trans up4, .inr (.inr (by rw [hs]; exact hh4)), na, os, ag, hno rfl⟩)
      first
        | exact wpAny_bind (wpAny_pure (wpAny_bind up4))
        | exact wpAny_bind up4
    | true =>
      refine codeAny_handlers_suite_as (HandSPX.lands_againZ fl3 fun h4 fl4 up4 => ?_)
      have J4 : Inv X pins σ' H' { s' with heap := h4 } := J.landed nb fl4.1 ((up.trans up3).trans up4) os ag
      obtain ⟨oe4, vs4, he4, hz4, hd4⟩ := fl4.there
      refine store_ok (X := X.suite a ((a, oe4) :: (X.pn ++ pins))) (v := .ref a) (J4.suite he4 hd4 na nL nF) hN hi (.inl hln) rfl (fun s5 S5 => ?_) (.inr hln)
      refine wpAny_mono ((hsu a oe4 cls d (X.pn ++ pins)).run [] s5 _ H' _ S5 (hyes rfl a na)) (fun f s6 hsp => ?_) (fun _ _ z => False.elim z)
      cases f with
      | next =>
        obtain ⟨σ6, H6, S6, q6⟩ := hsp
        obtain ⟨q1, q2, _⟩ := S6.pin (a, oe4) (by simp)
        exact gone_ok (IV.Inv.track (S6.unsuite ok) q1 hz4 hd4 q2 new nL nP) hN hi hln fun s7 J7 => ⟨_, _, J7, q6 q2⟩
      | brk => exact hsp.choose_spec.choose_spec.2.elim
      | cont => exact hsp.choose_spec.choose_spec.2.elim
      | ret u => exact hsp.choose_spec.choose_spec.choose_spec.2.2.elim
  · cases f with
    | next => exact wpAny_execs_nil (hout q)
    | brk => exact hout q
    | cont => exact hout q
    | ret u => exact hout q
end
end IV

set_option linter.all false
set_option Elab.async false
set_option maxRecDepth 100000
set_option maxHeartbeats 4000000
/-! IVy: classes of exceptions: raise, try, isinstance; sorted(set(..)) (own work). -/
namespace IV
open PySem L2 PySem.Spec PyProof.Rows

/-- what a class of exceptions must say -/
structure XcF (K : PySem.W.Frag) (C : Addr) : Prop where
  cl : (PySem.W.clsIn K C).isSome = true
  hg : PySem.W.findIn K (.ref C) "__getattribute__" = some (some (.builtin "BaseException.__getattribute__"))
  hk : ∃ gt, PySem.W.findIn K (.ref C) "__getattr__" = some gt
  hs : PySem.W.subIn K (.ref C) (.type "BaseException") = some true
  ha : PySem.W.findIn K (.ref C) "__class__" = some (some (.builtin "object.__class__"))
  hn : PySem.W.specialIn K (.builtin "object.__class__") "__get__" = some (some (.builtin "getset_descriptor.__get__"))
  ht : PySem.W.takesIn K (.builtin "object.__class__") = some true
  hm : PySem.W.mroIn K C (.type "object") = some true
/-- a class by its name -/
def NamedC (M : Mdl) (x : Str) (v : Value) : Prop := (x == ("__debug__" : Str)) = false ∧ (M.mg x = some v ∨ (M.mg x = none ∧ bootBuiltins x = some v ∧ x ≠ "__name__"))
structure ClsOk (M : Mdl) : Prop where
  sub : ∀ c c' C b, M.cl c = some C → M.T.sub c c' = some b → XcF M.K C ∧ ∃ v, M.cv c' = some v ∧ PySem.W.kitOne M.K (.ref C) v = some b ∧ PySem.W.exmOne M.K (.ref C) v = some b
  nam : ∀ c v, M.cv c = some v → NamedC M (M.cnm c) v ∧ ((∃ T, v = .type T) ∨ ∃ C, v = .ref C)
  rs : ∀ c, M.rs c = true → ∃ C bmB newId B initId, M.cl c = some C ∧ M.mg (M.cnm c) = some (.ref C) ∧ ((M.cnm c) == ("__debug__" : Str)) = false ∧ PySem.W.keepIn M.K (.ref C) = true ∧ ExcBaseFacts B newId initId bmB ∧ PySem.W.excIn M.K C bmB newId = true ∧
    PySem.W.subIn M.K (.ref C) (.type "BaseException") = some true ∧ PySem.W.typeIn M.K (.ref C) = some (.type "type")
section
variable {M : Mdl} {k : Nat} {p : Plc} {lk : Lk} {fr : Bool} {X : Cx} {W : WX} {e a b c : Expr} {ie ia ib ic : IE} {pos : Pos} {F F' G H H' : Hp} {env : Env} {σ : L2.St}

/-! ### isinstance of an exception -/
def rIsX (K : PySem.W.Frag) : List V → Hp → VK → Prop := fun xs H Q => ∃ (a C : Addr) (d : Option Addr) (c : V) (u : Value) (b : Bool), xs = [.ref a, c] ∧ ClsV c u ∧ H a = some (ExV (.ref C) d a) ∧ (d = none ∨ ∃ dx gs, d = some dx ∧ H dx = some (.xd gs)) ∧ XcF K C ∧ PySem.W.kitOne K (.ref C) u = some b ∧ Q (.bl b) H
theorem call_isX : CallR X (.builtin "isinstance") (rIsX X.K) := by
  intro pins s σ H xs us Q I r h
  obtain ⟨a, C, d, c, u, b, rfl, kc, ha, hd, f, e, q⟩ := h
  obtain ⟨u1, u2, rfl, r1, r2⟩ := vals2 r
  have e2 := kc.eq r2
  subst e2
  cases r1
  obtain ⟨⟨oe, vs, h1, ⟨h2, h3⟩, h4⟩, _, _⟩ := I.hok a _ ha
  obtain ⟨gt, hk⟩ := f.hk
  obtain ⟨od, J⟩ : ∃ od, PySem.W.InstAt s.heap a oe C od := by
    obtain ⟨oc, od, oda, osl⟩ := oe
    dsimp only at h2 h3 h4
    subst h2 h3 h4
    rcases hd with rfl | ⟨dx, gs, rfl, hx⟩
    · exact ⟨none, h1, rfl, rfl, trivial⟩
    · obtain ⟨_, ⟨o, _, _, e, _⟩, _⟩ := I.hok dx _ hx
      exact ⟨some o, h1, rfl, rfl, e⟩
  exact PySem.W.kia_one (PySem.W.kitx_exc f.cl f.hg hk f.hs f.ha f.hn f.ht f.hm) I.kIn J e (fun z => nomatch z) fun tk => ⟨.bl b, H, I.tok tk, rfl, q⟩
theorem clsV_of {v : Value} (h : (∃ T, v = .type T) ∨ ∃ C, v = .ref C) : ∃ c, ClsV c v ∧ RelV c v := by
  rcases h with ⟨T, rfl⟩ | ⟨C, rfl⟩
  · exact ⟨.ty T, .ty T, rfl⟩
  · exact ⟨.ref C, .own C, rfl⟩
theorem pe_cls (g : Good M k p W X) {x : Str} {v : Value} {c : V} (hn : NamedC M x v) (hg : glb p x = true) (r : RelV c v) : PE X (.Name x pos) (tC c) := by
  obtain ⟨h1, h2 | ⟨h2, h3, h4⟩⟩ := hn
  · exact pe_glob (gl_of g hg) (by rw [g.mg]; exact h2) r h1
  · exact pe_bltn (gl_of g hg) (by rw [g.mg]; exact h2) h3 r h4 h1
theorem sE_isx (mo : MOk M) (co : ClsOk M) {n : Nat} {x : Str} {v : Value} {pf px : Pos} (hv : M.cv n = some v) (hx : x = M.cnm n) (hg : glb p "isinstance" = true) (hgx : glb p x = true) (ha : SE M k p lk a ia) (hs : notStar a = true) : SE M k p lk (.Call (.Name "isinstance" pf) [a, .Name x px] [] pos) (.isx ia n) := by
  intro X W g env σ F G H Q S hp
  subst hx
  obtain ⟨hn, hcl⟩ := co.nam n v hv
  obtain ⟨c, kc, rc⟩ := clsV_of hcl
  refine sE_of (pe_callB call_isX (gl_of g hg) (by rw [g.mg]; exact mo.blt _ isi_facts.1) isi_facts.2 (pa_cons (peS X a) (pa_cons (pe_cls g hn hgx rc) pa_nil rfl) (starEach_cons hs _ X.env)) (by decide) (by decide) (starEach_cons hs _ X.env) rfl) (ha X W g env σ F G H _ S ?_)
  rw [evE] at hp
  refine hp.bind fun d env1 F1 H1 e1 x1 S1 hp1 v1 r => ?_
  simp only at hp1
  cases d with
  | exc c' fs =>
    obtain ⟨b, hb, hp2⟩ := hp1.of
    have fin : ∀ {a C : Addr} {dd : Option Addr}, F1 a = some (ExV (.ref C) dd a) → M.cl c' = some C → (dd = none ∨ ∃ dx gs, dd = some dx ∧ F1 dx = some (.xd gs)) → rIsX X.K [.ref a, c] H1 Q := fun {a C dd} h1 h2 h3 => by
      obtain ⟨f, v', e1, e2, e3⟩ := co.sub c' n C b h2 hb
      rw [hv] at e1
      cases e1
      exact ⟨a, C, dd, c, v, b, rfl, kc, S1.fh.stb _ _ trivial h1, h3.imp id (fun ⟨dx, gs, z1, z2⟩ => ⟨dx, gs, z1, S1.fh.stb _ _ trivial z2⟩), by rw [g.K]; exact f, by rw [g.K]; exact e2, hp2.ok (Ex.refl _) S1 _ (Rep.bl _)⟩
    cases (show M.Rep F1 v1 (.exc c' fs) from r) with
    | exc0 h1 h2 => exact fin h1 h2 (.inl rfl)
    | excF h1 h2 h3 _ => exact fin h1 h2 (.inr ⟨_, _, rfl, h3⟩)
  | _ => exact hp1.elim

/-! ### raise -/
theorem ss_rais (co : ClsOk M) {n : Nat} {x : Str} {px pc : Pos} (hr : M.rs n = true) (hx : x = M.cnm n) (hg : glb p x = true) : SS M k p lk fr (.Raise (some (.Call (.Name x px) [] [] pc)) none pos) (.rais n []) := by
  intro X W g env σ F G H D S hp
  subst hx
  obtain ⟨C, bmB, newId, B, initId, h1, h2, h3, h4, h5, h6, h7, h8⟩ := co.rs n hr
  refine sS_of (ps_raise g.calm g.takes (pmk_own0 h5 (by rw [g.K]; exact h6) (by rw [g.mg]; exact h2) (by rw [g.K]; exact h4) (raises_own (by rw [g.K]; exact h7) (by rw [g.K]; exact h8)) (gl_of g hg) h3)) ?_
  rw [evS] at hp
  exact hp (.ref C) none σ F H (Ex.refl _) S Kept.refl ⟨C, rfl, h1, .inl ⟨rfl, rfl⟩⟩

/-! ### try .. except x as n: y = n -/
theorem set3 {σ : L2.St} {i j : Nat} {u v w : Option V} : ((σ.set i u).set j v).set i w = (σ.set j v).set i w := by
  by_cases h : i = j
  · subst h; simp
  · rw [List.set_comm u v h, List.set_set]
theorem ss_tryK (co : ClsOk M) {c i j : Nat} {x n y : Str} {v : Value} {body : List Stmt} {ibody : List IS} {np pos' q1 q2 q3 : Pos} (htop : p.top = true) (hv : M.cv c = some v) (hx : x = M.cnm c) (hg : glb p x = true) (hi : seen p i n = true) (hnl : p.sc.names.lookup n = some .local) (hj : binds p j y = true)
    (hb : SSs M k p lk fr body ibody) : SS M k p lk fr (.Try body [.ExceptHandler (some (.Name x np)) (some n) [.Assign [.Name y q1] (.Name n q2) q3] pos'] [] [] pos) (.tryK ibody [c] i j) := by
  intro X W g env σ F G H D S hp
  subst hx
  obtain ⟨⟨hn1, hn2⟩, _⟩ := co.nam c v hv
  obtain ⟨hs, hf, hex⟩ := g.fr htop
  have hi0 : p.N[i]? = some n := by
    unfold seen at hi
    simp only [Bool.and_eq_true, decide_eq_true_eq] at hi
    exact hi.1.1.1
  have nm : Names X (M.cnm c) v := ⟨gl_of g hg, hn1, by rw [g.mg]; exact hn2⟩
  refine sS_of (ps_try_keep (tb := fun W' D σ H => ∀ pn xe, Takes (X.tr pn xe) W' → PassesOwn (model X.prog X.w) X.A X.env xe → sSs (X.tr pn xe) body D σ H) (ts := fun a cls d D σ H => ∃ u, σ[i]? = some (some u) ∧ D.nx (σ.set j (some u)) H)
    hs hf hex (by rw [g.names]; exact g.nd) (by rw [g.names]; exact hi0) (by show X.env.scope.names.lookup n = some .local; rw [g.scope]; exact hnl) nm g.takes (fun W' pn xe tk po => ⟨fun pins s σ H D I h => h pn xe tk po pins s I⟩) (fun a oe cls d pn => ?_)) ?_
  · have hN : (X.suite a ((a, oe) :: pn)).N.Nodup := by show X.N.Nodup; rw [g.names]; exact g.nd
    have hv1 : PE (X.suite a ((a, oe) :: pn)) (.Name n q2) (tVar i) := by
      unfold seen at hi
      simp only [Bool.and_eq_true, decide_eq_true_eq, Bool.not_eq_true'] at hi
      exact pe_var (by show X.N[i]? = some n; rw [g.names]; exact hi0) (.inl (by show X.env.scope.names.lookup n = some .local; rw [g.scope]; exact hnl)) hi.1.2 hi.2
    unfold binds at hj
    simp only [Bool.and_eq_true, decide_eq_true_eq] at hj
    obtain ⟨hl1, hl2⟩ := g.loc y hj.2
    exact pss_cons (ps_set (i := j) hN (by show X.N[j]? = some y; rw [g.names]; exact hj.1) hl1 hv1 (noSwap rfl _ _ _) hl2) pss_nil
  · intro pn xe tk po
    have g' : Good M k p (wKp X.K v i (fun a cls d D σ H => ∃ u, σ[i]? = some (some u) ∧ D.nx (σ.set j (some u)) H) W D) (X.tr pn xe) := ⟨g.prog, g.w, g.K, g.mg, g.base, g.names, g.nd, g.scope, g.calm, g.room, tk, po, g.loc, g.fr⟩
    refine hb (X.tr pn xe) _ g' env σ F G H D S ?_
    rw [evS] at hp
    cases hr : evSs M.T (callF M.T k) lk ibody env with
    | no => rw [hr] at hp; exact hp
    | ok q => rw [hr] at hp; exact hp
    | ex c0 fs e0 =>
      rw [hr] at hp
      simp only at hp
      obtain ⟨b, hb0, hp2⟩ := hp.of
      have hb1 : M.T.sub c0 c = some b := by
        unfold subAny subAny at hb0
        cases h1 : M.T.sub c0 c with
        | none => rw [h1] at hb0; cases hb0
        | some b1 => rw [h1] at hb0; simpa using hb0
      intro cls dd σ' F' H' x' S' kp xo
      obtain ⟨C, rfl, hC, hd⟩ := id xo
      obtain ⟨f, v', e1, e2, e3⟩ := co.sub c0 c C b hC hb1
      rw [hv] at e1
      cases e1
      refine ⟨b, by rw [g.K]; exact e3, fun z => ?_, fun z a na => ?_⟩
      · subst z
        exact hp2 (.ref C) dd σ' F' H' x' S' kp xo
      · subst z
        simp only [if_true] at hp2
        obtain ⟨ev1, q4, hp3⟩ := hp2.of
        obtain ⟨ev2, q5, hp4⟩ := hp3.of
        obtain ⟨l1, i1, rfl⟩ := setE_some q4
        obtain ⟨l2, i2, rfl⟩ := setE_some q5
        rw [List.length_set] at i2
        have hil : i < σ'.length := by rw [← S'.len]; exact i2
        refine ⟨.ref a, by rw [List.getElem?_set_self hil], fun na' => ?_⟩
        obtain ⟨x2, S2⟩ := S'.lay (o := ExV (.ref C) dd a) na
        have r : M.Rep (upd F' a (ExV (.ref C) dd a)) (.ref a) (.exc c0 fs) := by
          rcases hd with ⟨rfl, rfl⟩ | ⟨dx, gs, rfl, h1, h2⟩
          · exact .exc0 upd_same hC
          · exact .excF upd_same hC (x2.stb _ _ trivial h1) (h2.mono x2)
        rw [set3]
        have S3 := St_no (St_set_fz S2 i1 r) i none
        exact hp4 _ _ _ (x'.trans x2) S3 ((kp.trans (kept_set l1)).trans (kept_set l2))

/-! ### sorted(set(texts)) -/
theorem once_mem {α : Type} [DecidableEq α] {x : α} : ∀ {l : List α}, x ∈ once l ↔ x ∈ l
  | [] => Iff.rfl
  | y :: l => by
    unfold once
    split
    · rename_i h
      rw [once_mem (l := l), List.mem_cons]
      exact ⟨.inr, fun q => q.elim (fun z => z ▸ h) id⟩
    · rw [List.mem_cons, List.mem_cons, once_mem (l := l)]
theorem once_nd {α : Type} [DecidableEq α] : ∀ {l : List α}, (once l).Nodup
  | [] => .nil
  | y :: l => by
    unfold once
    split
    · exact once_nd
    · rename_i h
      exact List.nodup_cons.mpr ⟨fun z => h (once_mem.mp z), once_nd⟩
theorem perm_once {α : Type} [DecidableEq α] {l xs : List α} (nd : l.Nodup) (h : ∀ x, x ∈ l ↔ x ∈ xs) : l.Perm (once xs) := (List.perm_ext_iff_of_nodup nd once_nd).mpr fun x => (h x).trans once_mem.symm
theorem set_facts : ("set" : Str) ∈ bnames ∧ bootBuiltins "set" = some (.type "set") ∧ ("sorted" : Str) ∈ bnames ∧ bootBuiltins "sorted" = some (.builtin "sorted") := ⟨by decide +kernel, by decide +kernel, by decide +kernel, by decide +kernel⟩
theorem sN_sset (mo : MOk M) {pf pf2 pos2 : Pos} (hg : glb p "sorted" = true) (hg2 : glb p "set" = true) (ha : SE M k p lk a ia) (hs : notStar a = true) (hi : isStar ia = false) : SN M k p lk (.Call (.Name "sorted" pf) [.Call (.Name "set" pf2) [a] [] pos2] [] pos) (.bi .sset [ia]) := by
  intro X W g env σ F G H Q S hp
  have pset : PE X (.Call (.Name "set" pf2) [a] [] pos2) _ := pe_callTy (cr_setX g.calm) (gl_of g hg2) (by rw [g.mg]; exact mo.blt _ set_facts.1) set_facts.2.1 (pa_cons (peS X a) pa_nil (starEach_cons hs _ X.env)) (by decide) (by decide) (starEach_cons hs _ X.env) rfl
  refine sE_of (pe_callB (cr_sortX g.calm) (gl_of g hg) (by rw [g.mg]; exact mo.blt _ set_facts.2.2.1) set_facts.2.2.2 (pa_cons pset pa_nil rfl) (by decide) (by decide) rfl rfl) (ha X W g env σ F G H _ S ?_)
  have hst : ∀ e', ia ≠ .star e' := fun e' z => by subst z; cases hi
  rw [evE, evEs_cons hst] at hp
  have hp' : Post M W σ F G (fun d env' F' H' => PN M σ G Q d env' F' H') ((evE M.T (callF M.T k) lk ia env).bind fun p => (R.of (biD .sset [res p.2 p.1])).bind fun d => .ok (d, p.2)) := by
    cases h1 : evE M.T (callF M.T k) lk ia env with
    | no => rw [h1] at hp; exact hp
    | ex _ _ _ => rw [h1] at hp; exact hp
    | ok q => rw [h1] at hp; simp only [R.bind_ok, evEs] at hp ⊢; exact hp
  refine hp'.bind fun d env1 F1 H1 e1 x1 S1 hp1 v r => ?_
  obtain ⟨d', hd, hp2⟩ := hp1.of
  simp only at hd
  cases hr : res env1 d with
  | lst xs =>
    rw [hr] at hd
    unfold biD at hd
    rw [Option.map_eq_some_iff] at hd
    obtain ⟨ys, h2, rfl⟩ := hd
    unfold sset at h2
    split at h2
    · rename_i hl
      split at h2
      · rename_i ss hss
        cases h2
        have rx := rx_of S1 r (by rw [hr]; rfl)
        rw [hr] at rx
        obtain ⟨a, vs, rfl, g1, g2⟩ := RX.lst rx S1.fh
        have ew := g2.strs hss
        subst ew
        have hln : ss.length = xs.length := by have := g2.length; simpa using this
        refine ⟨a, ss, rfl, by rw [g.K]; exact g1, by omega, fun ad l had nd hm hle => ⟨ad, l, rfl, upd_same, by omega, fun zs pp hp hs hpp => ?_⟩⟩
        obtain ⟨S2, _⟩ := S1.new (o := TxO X.prog X.w ad l) had
        rw [sortS_eq (hp.trans (perm_once nd hm)) hs]
        have A : Aft M σ F1 G env1 Q (.lst ((isort leS (once ss)).map .str)) := hp2
        exact A.lst S2 hpp (Reps.of_strs _)
      · cases h2
    · cases h2
  | _ => rw [hr] at hd; cases hd
end
end IV

set_option linter.all false
set_option Elab.async false
set_option maxRecDepth 100000
set_option maxHeartbeats 4000000
/-! IVh: the text is what the tree says, looked up by a Boolean (own work). -/
namespace IV
open PySem L2 PySem.Spec PyProof.Rows

structure Ck where
  fnm : Nat → Str
  gnm : Nat → Str
  fn : Nat → Option IFun
  pnm : Nat → List Str
  cnm : Nat → Str := fun _ => ""
  hc : Nat → Bool := fun _ => false
  rs : Nat → Bool := fun _ => false
structure CkOk (c : Ck) (M : Mdl) : Prop where
  fnm : M.fnm = c.fnm
  gnm : M.gnm = c.gnm
  fn : M.T.fn = c.fn
  pnm : M.pnm = c.pnm
  cnm : M.cnm = c.cnm
  hc : ∀ i, c.hc i = true → ∃ v, M.cv i = some v
  rs : M.rs = c.rs
/-- what is to be looked at -/
inductive Ob where
  | E (p : Plc) (e : Expr) (ie : IE)
  | N (p : Plc) (e : Expr) (ie : IE)
  | T (p : Plc) (e : Expr) (ie : IE)
  | W (p : Plc) (e : Expr) (ie : IE)
  | O (p : Plc) (e : Option Expr) (ie : IE)
  | A (p : Plc) (es : List Expr) (ies : List IE)
  | K (p : Plc) (es : List Expr) (ies : List IE)
  | I (p : Plc) (tg iter : Expr) (kk : IK) (ies : List IE)
  | Q (p : Plc) (ifs : List Expr) (iifs : List IE)
  | L (p : Plc) (es : List Expr) (ies : List IE) (os : List Bool)
  | S (p : Plc) (fr : Bool) (st : Stmt) (is : IS)
  | B (p : Plc) (fr : Bool) (st : List Stmt) (is : List IS)
def Means (M : Mdl) (k : Nat) : Ob → Prop
  | .E p e ie => ∀ lk, SE M k p lk e ie
  | .N p e ie => ∀ lk, SN M k p lk e ie
  | .T p e ie => ∀ lk, ST M k p lk e ie
  | .W p e ie => ∀ lk, SW M k p lk e ie
  | .O p e ie => ∀ lk, SO M k p lk e ie
  | .A p es ies => ∀ lk, SA M k p lk es ies
  | .K p es ies => ∀ lk, SK M k p lk es ies
  | .I p tg iter kk ies => ∀ lk, SI M k p lk tg iter kk ies
  | .Q p ifs iifs => ∀ lk, STs M k p lk ifs iifs
  | .L p es ies os => ∀ lk, Els M k p lk es ies os
  | .S p fr st is => ∀ lk, SS M k p lk fr st is
  | .B p fr st is => ∀ lk, SSs M k p lk fr st is
def unKw : List Keyword → Option (List (Str × Expr × Pos))
  | [] => some []
  | ⟨some n, e, p⟩ :: r => (unKw r).map ((n, e, p) :: ·)
  | ⟨none, _, _⟩ :: _ => none
theorem unKw_ok : ∀ {kws : List Keyword} {l : List (Str × Expr × Pos)}, unKw kws = some l → kws = mkKw l
  | [], _, h => by cases h; rfl
  | ⟨some n, e, p⟩ :: r, l, h => by
    simp only [unKw, Option.map_eq_some_iff] at h
    obtain ⟨m, h1, rfl⟩ := h
    rw [unKw_ok h1]; rfl
  | ⟨none, _, _⟩ :: _, _, h => by cases h
def isNil {α : Type} : List α → Bool
  | [] => true
  | _ => false
theorem isNil_ok {α : Type} {l : List α} (h : isNil l = true) : l = [] := by cases l <;> first | rfl | cases h
theorem star_ok {ie : IE} (h : isStar ie = false) : ∀ e', ie ≠ .star e' := fun e' z => by subst z; cases h
def notSet : Expr → Bool
  | .Set _ _ _ => false
  | _ => true
theorem notSet_ok {iter : Expr} (h : notSet iter = true) : ∀ env x, foldedSetIterable iter env x = pure x := fun env x => by
  cases iter <;> first | rfl | cases h
/-- the call of a def -/
def chkCall (c : Ck) (rec : Ob → Bool) (p : Plc) (f : Nat) (x : Str) (es : List Expr) (kws : List Keyword) (ies : List IE) (ks : List Nat) (fresh : Bool) : Bool :=
  decide (x = c.fnm f) && glb p x && es.all notStar && (match c.fn f with
    | none => false
    | some F => (F.fresh == fresh) && (match ks with
      | [] => isNil kws && rec (.A p es ies) && (!isNil es || isNil ies)
      | _ => match unKw kws with
        | none => false
        | some l => decide (ks.length ≤ ies.length) && rec (.A p es (ies.take (ies.length - ks.length))) && rec (.K p (l.map (·.2.1)) (ies.drop (ies.length - ks.length))) && decide (l.map (·.1) = ks.map fun j => (c.pnm f).getD j "") &&
            decide ((ies.length - ks.length, ks) ∈ F.kws) && !(ies.any isStar) && (!isNil es || isNil (ies.take (ies.length - ks.length)))))
def ownNames (p : Plc) (own : List Nat) : List (Str × Nat) := own.map fun i => (p.N.getD i "", i)
theorem ownNames_snd (p : Plc) (own : List Nat) : own = (ownNames p own).map (·.2) := by
  unfold ownNames
  rw [List.map_map]
  exact (List.map_id own).symm
/-- a comprehension -/
def chkComp (rec : Ob → Bool) (p : Plc) (gs : List Comprehension) (elt : Expr) (scope : Scope) (own : List Nat) (t : Tg) (kk : IK) (ies iifs : List IE) (last : Bool) (ielt : IE) : Bool := match gs with
  | [⟨tg, iter, ifs, a⟩] => decide (a = 0) && last && rec (.I p tg iter kk ies) && blkC p.N p.sc scope (ownNames p own) && chkTg (p.blk scope) t tg && (tgS t).all (fun i => decide (i ∈ own)) && rec (.Q (p.blk scope) ifs iifs) && rec (.E (p.blk scope) elt ielt) && notSet iter
  | _ => false
def chk (c : Ck) : Nat → Ob → Bool
  | 0, _ => false
  | n + 1, .N p e ie => (match e with
    | .BoolOp _ [a] _ => chk c n (.N p a ie)
    | _ => false) || (match ie with
    | .bin o ia ib => (match e with
      | .BinOp a op b _ => decide (op = opOf o) && chk c n (.E p a ia) && chk c n (.E p b ib)
      | _ => false)
    | .lst ies => (match e with
      | .List es _ => chk c n (.A p es ies)
      | _ => false)
    | .slc ia il ih => (match e with
      | .Subscript a (.Slice lo hi none _) _ => chk c n (.E p a ia) && chk c n (.O p lo il) && chk c n (.O p hi ih)
      | _ => false)
    | .or ia ib => (match e with
      | .BoolOp .Or (a :: b :: r) q => chk c n (.N p a ia) && chk c n (.N p (.BoolOp .Or (b :: r) q) ib)
      | _ => false)
    | .bi .sset [ie] => (match e with
      | .Call (.Name x _) [.Call (.Name y _) [a] [] _] [] _ => decide (x = "sorted") && decide (y = "set") && glb p x && glb p y && notStar a && !isStar ie && chk c n (.E p a ie)
      | _ => false)
    | .bi bb ies => (match e with
      | .Call (.Name x _) es [] _ => decide (x = biNm bb) && glb p x && !isNil es && es.all notStar && plainBI bb && chk c n (.A p es ies)
      | _ => false)
    | .comp own t kk ies iifs last ielt => (match e with
      | .ListComp elt gs scope _ => chkComp (chk c n) p gs elt scope own t kk ies iifs last ielt
      | _ => false)
    | .call f ies ks => (match e with
      | .Call (.Name x _) es kws _ => chkCall c (chk c n) p f x es kws ies ks true
      | _ => false)
    | .call1 f ie => (match e with
      | .Call (.Name x _) [a] [] _ => decide (x = c.fnm f) && glb p x && notStar a && (match c.fn f with
        | some F => F.fresh
        | none => false) && chk c n (.N p a ie)
      | _ => false)
    | .me .split io [ie] => (match e with
      | .Call (.Attribute o m apos) [a] [] cpos => decide (m = "split") && plainBase o && onLine apos cpos && notStar a && !isStar ie && chk c n (.E p o io) && chk c n (.E p a ie)
      | _ => false)
    | _ => false)
  | n + 1, .E p e ie => chk c n (.N p e ie) || (match ie with
    | .c d => (match e with
      | .Constant q _ _ => chkC d q
      | _ => false)
    | .v i => (match e with
      | .Name x _ => seen p i x
      | _ => false)
    | .ov i => (match e with
      | .Name x _ => seen p i x
      | _ => false)
    | .g i => (match e with
      | .Name x _ => decide (x = c.gnm i) && glb p x
      | _ => false)
    | .tup ies => (match e with
      | .Tuple es _ _ => chk c n (.A p es ies)
      | _ => false)
    | .neg ia => (match e with
      | .UnaryOp .USub a _ => chk c n (.E p a ia)
      | _ => false)
    | .not ia => (match e with
      | .UnaryOp .Not a _ => chk c n (.E p a ia)
      | _ => false)
    | .cmp o ia ib => (match e with
      | .Compare a [op] [b] _ => decide (op = copOf o) && !behindInMarks op b && chk c n (.E p a ia) && chk c n (.E p b ib)
      | _ => false)
    | .chain o o' ia ib ic => (match e with
      | .Compare a [op, op'] [b, b'] _ => decide (op = copOf o) && decide (op' = copOf o') && !behindInMarks op' b' && chk c n (.E p a ia) && chk c n (.E p b ib) && chk c n (.E p b' ic)
      | _ => false)
    | .isN ia => (match e with
      | .Compare a [.Is] [.Constant .none _ _] _ => chk c n (.E p a ia)
      | _ => false)
    | .notN ia => (match e with
      | .Compare a [.IsNot] [.Constant .none _ _] _ => chk c n (.E p a ia)
      | _ => false)
    | .ife it ia ib => (match e with
      | .IfExp t a b _ => chk c n (.T p t it) && chk c n (.E p a ia) && chk c n (.E p b ib)
      | _ => false)
    | .sub ia ib => (match e with
      | .Subscript a b _ => plainIx b && chk c n (.E p a ia) && chk c n (.E p b ib)
      | _ => false)
    | .call f ies ks => (match e with
      | .Call (.Name x _) es kws _ => chkCall c (chk c n) p f x es kws ies ks false
      | _ => false)
    | .call1 f ie => (match e with
      | .Call (.Name x _) [a] [] _ => decide (x = c.fnm f) && glb p x && notStar a && (match c.fn f with
        | some F => !F.fresh
        | none => false) && chk c n (.N p a ie)
      | _ => false)
    | .isi ia ts => (match e with
      | .Call (.Name x _) [a, .Tuple ets _ _] [] _ => decide (x = "isinstance") && glb p x && notStar a && !isNil ts && decide (ts.length ≤ 100) && chkTys p ts ets && chk c n (.E p a ia)
      | .Call (.Name x _) [a, et] [] _ => decide (x = "isinstance") && glb p x && notStar a && (match ts with
        | [t] => chkTy p t et
        | _ => false) && chk c n (.E p a ia)
      | _ => false)
    | .isx ia i => (match e with
      | .Call (.Name x _) [a, .Name y _] [] _ => decide (x = "isinstance") && glb p x && decide (y = c.cnm i) && glb p y && c.hc i && notStar a && chk c n (.E p a ia)
      | _ => false)
    | .pop i => (match e with
      | .Call (.Attribute (.Name x _) m apos) [] [] cpos => decide (m = "pop") && seen p i x && onLine apos cpos
      | _ => false)
    | .popAt i ie => (match e with
      | .Call (.Attribute (.Name x _) m apos) [a] [] cpos => decide (m = "pop") && seen p i x && onLine apos cpos && notStar a && chk c n (.E p a ie)
      | _ => false)
    | .me m io [ie] => (match e with
      | .Call (.Attribute o x apos) [a] [] cpos => plainBase o && onLine apos cpos && notStar a && !isStar ie && chk c n (.E p o io) && chk c n (.E p a ie) && (match m with
        | .partition => decide (x = "partition")
        | .join => decide (x = "join")
        | _ => false)
      | _ => false)
    | .and ia ib => (match e with
      | .BoolOp .And (a :: b :: r) q => chk c n (.E p a ia) && chk c n (.E p (.BoolOp .And (b :: r) q) ib)
      | .BoolOp _ [a] _ => chk c n (.E p a (.and ia ib))
      | _ => false)
    | .or ia ib => (match e with
      | .BoolOp .Or (a :: b :: r) q => chk c n (.E p a ia) && chk c n (.E p (.BoolOp .Or (b :: r) q) ib)
      | .BoolOp _ [a] _ => chk c n (.E p a (.or ia ib))
      | _ => false)
    | .bad => true
    | _ => false) || (match e with
      | .BoolOp _ [a] _ => chk c n (.E p a ie)
      | _ => false)
  | n + 1, .T p e ie => (plainTest e && chk c n (.E p e ie)) || (match ie with
    | .cmp o ia ib => (match e with
      | .Compare a [op] [b] _ => decide (op = copOf o) && !behindInMarks op b && chk c n (.E p a ia) && chk c n (.E p b ib)
      | _ => false)
    | .chain o o' ia ib ic => (match e with
      | .Compare a [op, op'] [b, b'] _ => decide (op = copOf o) && decide (op' = copOf o') && !behindInMarks op' b' && chk c n (.E p a ia) && chk c n (.E p b ib) && chk c n (.E p b' ic)
      | _ => false)
    | .isN ia => (match e with
      | .Compare a [.Is] [.Constant .none _ _] _ => chk c n (.E p a ia)
      | _ => false)
    | .notN ia => (match e with
      | .Compare a [.IsNot] [.Constant .none _ _] _ => chk c n (.E p a ia)
      | _ => false)
    | .not ia => (match e with
      | .UnaryOp .Not a _ => chk c n (.T p a ia)
      | _ => false)
    | _ => false) || chk c n (.W p e ie)
  | n + 1, .W p e ie => (match e with
    | .BoolOp .And [a] _ => chk c n (.T p a ie)
    | .BoolOp .Or [a] _ => chk c n (.T p a ie)
    | .BoolOp .And (a :: b :: r) q => (match ie with
      | .and ia ib => chk c n (.T p a ia) && chk c n (.W p (.BoolOp .And (b :: r) q) ib)
      | _ => false)
    | .BoolOp .Or (a :: b :: r) q => (match ie with
      | .or ia ib => chk c n (.T p a ia) && chk c n (.W p (.BoolOp .Or (b :: r) q) ib)
      | _ => false)
    | _ => false)
  | n + 1, .O p e ie => (match e with
    | none => (match ie with
      | .c .non => true
      | _ => false)
    | some e => !absent ie && chk c n (.E p e ie))
  | n + 1, .A p es ies => (match es, ies with
    | [], [] => true
    | e :: es, ie :: ies => (match e with
      | .Starred a _ => (match ie with
        | .star ia => chk c n (.E p a ia) && chk c n (.A p es ies)
        | _ => false)
      | _ => notStar e && !isStar ie && chk c n (.E p e ie) && chk c n (.A p es ies))
    | _, _ => false)
  | n + 1, .K p es ies => (match es, ies with
    | [], [] => true
    | e :: es, ie :: ies => !isStar ie && chk c n (.E p e ie) && chk c n (.K p es ies)
    | _, _ => false)
  | n + 1, .I p tg iter kk ies => (match kk with
    | .seq => (match ies with
      | [ie] => !isStar ie && chk c n (.E p iter ie)
      | _ => false)
    | .rng => (match iter with
      | .Call (.Name x _) [a] [] _ => decide (x = "range") && glb p x && notStar a && !(ies.any isStar) && decide (ies.length = 1) && chk c n (.A p [a] ies)
      | .Call (.Name x _) [a, b] [] _ => decide (x = "range") && glb p x && notStar a && notStar b && !(ies.any isStar) && decide (ies.length = 2) && chk c n (.A p [a, b] ies)
      | _ => false)
    | .enum => (match iter, tg with
      | .Call (.Name x _) [a] [] _, .Tuple _ _ _ => decide (x = "enumerate") && glb p x && notStar a && decide (ies.length = 1) && chk c n (.A p [a] ies)
      | _, _ => false)
    | .zip => (match iter, tg with
      | .Call (.Name x _) [a, b] [] _, .Tuple _ _ _ => decide (x = "zip") && glb p x && notStar a && notStar b && decide (ies.length = 2) && chk c n (.A p [a, b] ies)
      | _, _ => false)
    | .items => (match iter, tg with
      | .Call (.Attribute o x apos) [] [] cpos, .Tuple _ _ _ => decide (x = "items") && plainBase o && onLine apos cpos && (match ies with
        | [ie] => !isStar ie && chk c n (.E p o ie)
        | _ => false)
      | _, _ => false)
    | .vals => (match iter with
      | .Call (.Attribute o x apos) [] [] cpos => decide (x = "values") && plainBase o && onLine apos cpos && (match ies with
        | [ie] => !isStar ie && chk c n (.E p o ie)
        | _ => false)
      | _ => false))
  | n + 1, .Q p ifs iifs => (match ifs, iifs with
    | [], [] => true
    | [t], [it] => chk c n (.T p t it)
    | _, _ => false)
  | n + 1, .L p es ies os => (match es, ies, os with
    | [], [], [] => true
    | e :: es, ie :: ies, o :: os => notStar e && (if o then chk c n (.N p e ie) else chk c n (.E p e ie)) && chk c n (.L p es ies os)
    | _, _, _ => false)
  | n + 1, .B p fr sts iss => (match sts, iss with
    | [], [] => true
    | st :: sts, is :: iss => chk c n (.S p fr st is) && chk c n (.B p fr sts iss)
    | _, _ => false)
  | n + 1, .S p fr st is => (match is with
    | .asg i ie => (match st with
      | .Assign [.Name x _] e _ => binds p i x && ((noComp e && chk c n (.E p e ie)) || (match e, ie with
        | .ListComp elt gs scope _, .comp own t kk ies iifs last ielt => chkComp (chk c n) p gs elt scope own t kk ies iifs last ielt
        | _, _ => false))
      | _ => false)
    | .own i ie => (match st with
      | .Assign [.Name x _] e _ => binds p i x && ((noComp e && chk c n (.N p e ie)) || (match e, ie with
        | .ListComp elt gs scope _, .comp own t kk ies iifs last ielt => chkComp (chk c n) p gs elt scope own t kk ies iifs last ielt
        | _, _ => false))
      | _ => false)
    | .fz i s => chk c n (.S p fr st s)
    | .unp is ie => (match st with
      | .Assign [tg] e _ => chkT p is tg && noComp e && notTup e && chk c n (.E p e ie)
      | _ => false)
    | .par is os ies => (match st with
      | .Assign [.Tuple es _ _] (.Tuple vs _ _) _ => chkPar p is es vs && decide (is.length ≤ line) && chk c n (.L p vs ies os)
      | _ => false)
    | .set i ik ie => (match st with
      | .Assign [.Subscript (.Name x _) kx _] e _ => seen p i x && noComp e && plainIx kx && chk c n (.E p e ie) && chk c n (.E p kx ik)
      | _ => false)
    | .app i ie => (match st with
      | .Expr (.Call (.Attribute (.Name x _) m apos) [a] [] cpos) _ => decide (m = "append") && seen p i x && onLine apos cpos && notStar a && chk c n (.E p a ie)
      | _ => false)
    | .expr ie => (match st with
      | .Expr e _ => noComp e && chk c n (.E p e ie)
      | _ => false)
    | .ret ie => (match st with
      | .Return (some e) _ => !fr && chk c n (.E p e ie)
      | _ => false)
    | .retN ie => (match st with
      | .Return (some e) _ => fr && chk c n (.N p e ie)
      | _ => false)
    | .retO i => (match st with
      | .Return (some (.Name x _)) _ => fr && seen p i x
      | _ => false)
    | .ifs it ia ib => (match st with
      | .If t sa sb _ => chk c n (.T p t it) && chk c n (.B p fr sa ia) && chk c n (.B p fr sb ib)
      | _ => false)
    | .for_ t kk ies ib => (match st with
      | .For tg iter b [] _ => chkTg p t tg && notSet iter && chk c n (.I p tg iter kk ies) && chk c n (.B p fr b ib)
      | _ => false)
    | .while_ it ib => (match st with
      | .While t b [] _ => chk c n (.T p t it) && chk c n (.B p fr b ib)
      | _ => false)
    | .pass => (match st with
      | .Pass _ => true
      | _ => false)
    | .brk => (match st with
      | .Break _ => true
      | _ => false)
    | .cont => (match st with
      | .Continue _ => true
      | _ => false)
    | .bad => true
    | .thru _ => false
    | .rais i es => (match st with
      | .Raise (some (.Call (.Name x _) [] [] _)) none _ => decide (x = c.cnm i) && glb p x && c.rs i && isNil es
      | _ => false)
    | .tryK ib cs i j => (match st, cs with
      | .Try body [.ExceptHandler (some (.Name x _)) (some nm) [.Assign [.Name y _] (.Name z _) _] _] [] [] _, [ci] => p.top && c.hc ci && decide (x = c.cnm ci) && glb p x && seen p i nm && decide (p.sc.names.lookup nm = some .local) && binds p j y && decide (z = nm) && chk c n (.B p fr body ib)
      | _, _ => false))
end IV

set_option linter.all false
set_option Elab.async false
set_option maxRecDepth 100000
set_option maxHeartbeats 4000000
/-! IVi: the Boolean is right (own work). -/
namespace IV
open PySem L2 PySem.Spec PyProof.Rows

section
variable {M : Mdl} {k : Nat} {c : Ck} {n : Nat}

theorem call_all {f : Nat} {x : Str} {es : List Expr} {kws : List Keyword} {ies : List IE} {ks : List Nat} {p : Plc} {rec : Ob → Bool} {pf pos : Pos} (ok : CkOk c M) (fo : FnsOk M k) (ih : ∀ ob, rec ob = true → Means M k ob) (fresh : Bool)
    (h : chkCall c rec p f x es kws ies ks fresh = true) : ∀ lk, if fresh then SN M k p lk (.Call (.Name x pf) es kws pos) (.call f ies ks) else SE M k p lk (.Call (.Name x pf) es kws pos) (.call f ies ks) := by
  intro lk
  unfold chkCall at h
  simp only [Bool.and_eq_true, decide_eq_true_eq] at h
  obtain ⟨⟨⟨rfl, hg⟩, hs⟩, h⟩ := h
  split at h
  · cases h
  · rename_i Fn hf
    simp only [Bool.and_eq_true, beq_iff_eq] at h
    obtain ⟨hfr, h⟩ := h
    have hf' : M.T.fn f = some Fn := by rw [ok.fn]; exact hf
    have hg' : glb p (M.fnm f) = true := by rw [ok.fnm]; exact hg
    have e : c.fnm f = M.fnm f := by rw [ok.fnm]
    rw [e]
    split at h
    · simp only [Bool.and_eq_true, Bool.or_eq_true, Bool.not_eq_true'] at h
      obtain ⟨⟨hk, hA⟩, hem⟩ := h
      have := isNil_ok hk
      subst this
      have hA : SA M k p lk es ies := ih _ hA lk
      cases es with
      | nil =>
        rcases hem with z | z
        · cases z
        · have := isNil_ok z
          subst this
          cases fresh with
          | true => exact sN_call0 fo hf' hfr hg'
          | false => exact sE_call0 fo hf' hfr hg'
      | cons e es =>
        cases fresh with
        | true => exact sN_call fo hf' hfr hg' (by simp) hs hA
        | false => exact sE_call fo hf' hfr hg' (by simp) hs hA
    · split at h
      · cases h
      · rename_i l hl
        simp only [Bool.and_eq_true, decide_eq_true_eq, Bool.or_eq_true, Bool.not_eq_true'] at h
        obtain ⟨⟨⟨⟨⟨⟨hle, hA⟩, hK⟩, hnm⟩, hmem⟩, hst⟩, hem⟩ := h
        have hkw := unKw_ok hl
        subst hkw
        have hA : SA M k p lk es _ := ih _ hA lk
        have hK : SK M k p lk _ _ := ih _ hK lk
        have key := List.take_append_drop (ies.length - ks.length) ies
        have hem' : es = [] → ies.take (ies.length - ks.length) = [] := fun z => by
          subst z
          rcases hem with q | q
          · cases q
          · exact isNil_ok q
        have hst' : (ies.take (ies.length - ks.length) ++ ies.drop (ies.length - ks.length)).any isStar = false := by rw [key]; exact hst
        rw [← ok.pnm] at hnm
        have l1 : (ies.take (ies.length - ks.length)).length = ies.length - ks.length := by rw [List.length_take]; omega
        have l2 : (ies.drop (ies.length - ks.length)).length = ks.length := by rw [List.length_drop]; omega
        cases fresh with
        | true =>
          have := sN_callK (pos := pos) (pf := pf) fo hf' hfr hg' hs hmem hnm hA hK hem' l1 l2 hst'
          rw [key] at this
          exact this
        | false =>
          have := sE_callK (pos := pos) (pf := pf) fo hf' hfr hg' hs hmem hnm hA hK hem' l1 l2 hst'
          rw [key] at this
          exact this
theorem comp_all {gs : List Comprehension} {elt : Expr} {scope : Scope} {own : List Nat} {t : Tg} {kk : IK} {ies iifs : List IE} {last : Bool} {ielt : IE} {p : Plc} {rec : Ob → Bool} (ih : ∀ ob, rec ob = true → Means M k ob) (h : chkComp rec p gs elt scope own t kk ies iifs last ielt = true) :
    ∃ tg iter ifs, gs = [⟨tg, iter, ifs, 0⟩] ∧ last = true ∧ (∀ lk, SI M k p lk tg iter kk ies) ∧ blkC p.N p.sc scope (ownNames p own) = true ∧ chkTg (p.blk scope) t tg = true ∧ (∀ i ∈ tgS t, i ∈ own) ∧ (∀ lk, STs M k (p.blk scope) lk ifs iifs) ∧ (∀ lk, SE M k (p.blk scope) lk elt ielt) ∧ ∀ env x, foldedSetIterable iter env x = pure x := by
  unfold chkComp at h
  split at h
  · rename_i tg iter ifs a
    simp only [Bool.and_eq_true, decide_eq_true_eq, List.all_eq_true] at h
    obtain ⟨⟨⟨⟨⟨⟨⟨⟨rfl, hl⟩, hI⟩, hb⟩, hT⟩, hsub⟩, hQ⟩, hE⟩, hs⟩ := h
    exact ⟨tg, iter, ifs, rfl, hl, ih _ hI, hb, hT, hsub, ih _ hQ, ih _ hE, notSet_ok hs⟩
  · cases h
theorem chk_N {p : Plc} {e : Expr} {ie : IE} (ok : CkOk c M) (mo : MOk M) (fo : FnsOk M k) (ih : ∀ ob, chk c n ob = true → Means M k ob) (h : chk c (n + 1) (.N p e ie) = true) : ∀ lk, SN M k p lk e ie := by
  intro lk
  simp only [chk] at h
  rw [Bool.or_eq_true] at h
  rcases h with h | h
  · split at h
    · exact sN_one (ih _ h lk)
    · cases h
  split at h
  · split at h
    · simp only [Bool.and_eq_true, decide_eq_true_eq] at h
      obtain ⟨⟨rfl, h1⟩, h2⟩ := h
      exact sN_bin (ih _ h1 lk) (ih _ h2 lk)
    · cases h
  · split at h
    · exact sN_lst (ih _ h lk)
    · cases h
  · split at h
    · simp only [Bool.and_eq_true] at h
      exact sN_slc (ih _ h.1.1 lk) (ih _ h.1.2 lk) (ih _ h.2 lk)
    · cases h
  · split at h
    · simp only [Bool.and_eq_true] at h
      exact sN_or (ih _ h.1 lk) (ih _ h.2 lk)
    · cases h
  · split at h
    · simp only [Bool.and_eq_true, decide_eq_true_eq, Bool.not_eq_true'] at h
      obtain ⟨⟨⟨⟨⟨⟨rfl, rfl⟩, hg⟩, hg2⟩, hs⟩, hi⟩, hA⟩ := h
      exact sN_sset mo hg hg2 (ih _ hA lk) hs hi
    · cases h
  · split at h
    · simp only [Bool.and_eq_true, decide_eq_true_eq, Bool.not_eq_true'] at h
      obtain ⟨⟨⟨⟨⟨rfl, hg⟩, hn⟩, hs⟩, hpl⟩, hA⟩ := h
      exact sN_bi mo hg (fun z => by subst z; cases hn) hs hpl (ih _ hA lk)
    · cases h
  · split at h
    · obtain ⟨tg, iter, ifs, rfl, rfl, hI, hb, hT, hsub, hQ, hE, hs⟩ := comp_all ih h
      exact sN_comp (hI lk) hb (ownNames_snd _ _) hT hsub (hQ lk) (hE lk) hs
    · cases h
  · split at h
    · exact call_all ok fo ih true h lk
    · cases h
  · split at h
    · simp only [Bool.and_eq_true, decide_eq_true_eq] at h
      obtain ⟨⟨⟨⟨rfl, hg⟩, hs⟩, hfn⟩, he⟩ := h
      split at hfn
      · rename_i F hf
        rw [← ok.fnm] at hg ⊢
        exact sN_call1 fo (by rw [ok.fn]; exact hf) (by simpa using hfn) hg hs (ih _ he lk)
      · cases hfn
    · cases h
  · split at h
    · simp only [Bool.and_eq_true, decide_eq_true_eq, Bool.not_eq_true'] at h
      obtain ⟨⟨⟨⟨⟨⟨rfl, hb⟩, hl⟩, hs⟩, hi⟩, ho⟩, he⟩ := h
      exact sN_split hb hl hs (star_ok hi) (ih _ ho lk) (ih _ he lk)
    · cases h
  · cases h
theorem chk_E {p : Plc} {e : Expr} {ie : IE} (ok : CkOk c M) (mo : MOk M) (co : ClsOk M) (gl : GlsOk M) (fo : FnsOk M k) (ih : ∀ ob, chk c n ob = true → Means M k ob) (h : chk c (n + 1) (.E p e ie) = true) : ∀ lk, SE M k p lk e ie := by
  intro lk
  simp only [chk] at h
  rw [Bool.or_eq_true, Bool.or_eq_true] at h
  rcases h with (h | h) | h
  · exact (show SN M k p lk e ie from ih _ h lk).se
  · split at h
    · split at h
      · exact sE_c h
      · cases h
    · split at h
      · exact sE_v h
      · cases h
    · split at h
      · exact sE_ov h
      · cases h
    · split at h
      · simp only [Bool.and_eq_true, decide_eq_true_eq] at h
        obtain ⟨rfl, hg⟩ := h
        rename_i i _ _
        have e : c.gnm i = M.gnm i := by rw [ok.gnm]
        rw [e] at hg ⊢
        exact sE_g gl hg
      · cases h
    · split at h
      · exact sE_tup (ih _ h lk)
      · cases h
    · split at h
      · exact sE_neg (ih _ h lk)
      · cases h
    · split at h
      · exact sE_not (ih _ h lk)
      · cases h
    · split at h
      · simp only [Bool.and_eq_true, decide_eq_true_eq, Bool.not_eq_true'] at h
        obtain ⟨⟨⟨rfl, hm⟩, h1⟩, h2⟩ := h
        exact sE_cmp (ih _ h1 lk) (ih _ h2 lk) hm
      · cases h
    · split at h
      · simp only [Bool.and_eq_true, decide_eq_true_eq, Bool.not_eq_true'] at h
        obtain ⟨⟨⟨⟨⟨rfl, rfl⟩, hm⟩, h1⟩, h2⟩, h3⟩ := h
        exact sE_chain (ih _ h1 lk) (ih _ h2 lk) (ih _ h3 lk) hm
      · cases h
    · split at h
      · exact sE_isN (ih _ h lk)
      · cases h
    · split at h
      · exact sE_notN (ih _ h lk)
      · cases h
    · split at h
      · simp only [Bool.and_eq_true] at h
        exact sE_ife (ih _ h.1.1 lk) (ih _ h.1.2 lk) (ih _ h.2 lk)
      · cases h
    · split at h
      · simp only [Bool.and_eq_true] at h
        exact sE_sub (ih _ h.1.2 lk) (ih _ h.2 lk) h.1.1
      · cases h
    · split at h
      · exact call_all ok fo ih false h lk
      · cases h
    · split at h
      · simp only [Bool.and_eq_true, decide_eq_true_eq] at h
        obtain ⟨⟨⟨⟨rfl, hg⟩, hs⟩, hfn⟩, he⟩ := h
        split at hfn
        · rename_i F hf
          rw [← ok.fnm] at hg ⊢
          exact sE_call1 fo (by rw [ok.fn]; exact hf) (by simpa using hfn) hg hs (ih _ he lk)
        · cases hfn
      · cases h
    · split at h
      · simp only [Bool.and_eq_true, decide_eq_true_eq, Bool.not_eq_true'] at h
        obtain ⟨⟨⟨⟨⟨⟨rfl, hg⟩, hs⟩, hn⟩, hl⟩, ht⟩, he⟩ := h
        exact sE_isiT mo hg (ih _ he lk) hs (fun z => by subst z; cases hn) hl ht
      · simp only [Bool.and_eq_true, decide_eq_true_eq] at h
        obtain ⟨⟨⟨⟨rfl, hg⟩, hs⟩, ht⟩, he⟩ := h
        split at ht
        · exact sE_isi1 mo hg (ih _ he lk) hs ht
        · cases ht
      · cases h
    · split at h
      · simp only [Bool.and_eq_true, decide_eq_true_eq] at h
        obtain ⟨⟨⟨⟨⟨⟨rfl, hg⟩, hy⟩, hgy⟩, hc⟩, hs⟩, he⟩ := h
        obtain ⟨v, hv⟩ := ok.hc _ hc
        exact sE_isx mo co hv (by rw [ok.cnm]; exact hy) hg hgy (ih _ he lk) hs
      · cases h
    · split at h
      · simp only [Bool.and_eq_true, decide_eq_true_eq] at h
        obtain ⟨⟨rfl, hx⟩, hl⟩ := h
        exact sE_pop hx hl
      · cases h
    · split at h
      · simp only [Bool.and_eq_true, decide_eq_true_eq] at h
        obtain ⟨⟨⟨⟨rfl, hx⟩, hl⟩, hs⟩, he⟩ := h
        exact sE_popAt hx hl hs (ih _ he lk)
      · cases h
    · split at h
      · simp only [Bool.and_eq_true, Bool.not_eq_true'] at h
        obtain ⟨⟨⟨⟨⟨⟨hb, hl⟩, hs⟩, hi⟩, ho⟩, he⟩, hm⟩ := h
        split at hm
        · simp only [decide_eq_true_eq] at hm
          subst hm
          exact sE_partition hb hl hs (star_ok hi) (ih _ ho lk) (ih _ he lk)
        · simp only [decide_eq_true_eq] at hm
          subst hm
          exact sE_join hb hl hs (star_ok hi) (ih _ ho lk) (ih _ he lk)
        · cases hm
      · cases h
    · split at h
      · simp only [Bool.and_eq_true] at h
        exact sE_and (ih _ h.1 lk) (ih _ h.2 lk)
      · exact sE_one (ih _ h lk)
      · cases h
    · split at h
      · simp only [Bool.and_eq_true] at h
        exact sE_or (ih _ h.1 lk) (ih _ h.2 lk)
      · exact sE_one (ih _ h lk)
      · cases h
    · exact sE_bad
    · cases h
  · split at h
    · exact sE_one (ih _ h lk)
    · cases h
theorem chk_T {p : Plc} {e : Expr} {ie : IE} (ih : ∀ ob, chk c n ob = true → Means M k ob) (h : chk c (n + 1) (.T p e ie) = true) : ∀ lk, ST M k p lk e ie := by
  intro lk
  simp only [chk] at h
  rw [Bool.or_eq_true, Bool.or_eq_true] at h
  rcases h with (h | h) | h
  · rw [Bool.and_eq_true] at h
    exact sT_any h.1 (ih _ h.2 lk)
  · split at h
    · split at h
      · simp only [Bool.and_eq_true, decide_eq_true_eq, Bool.not_eq_true'] at h
        obtain ⟨⟨⟨rfl, hm⟩, h1⟩, h2⟩ := h
        exact sT_cmp (ih _ h1 lk) (ih _ h2 lk) hm
      · cases h
    · split at h
      · simp only [Bool.and_eq_true, decide_eq_true_eq, Bool.not_eq_true'] at h
        obtain ⟨⟨⟨⟨⟨rfl, rfl⟩, hm⟩, h1⟩, h2⟩, h3⟩ := h
        exact sT_chain (ih _ h1 lk) (ih _ h2 lk) (ih _ h3 lk) hm
      · cases h
    · split at h
      · exact sT_isN (ih _ h lk)
      · cases h
    · split at h
      · exact sT_notN (ih _ h lk)
      · cases h
    · split at h
      · exact sT_not (ih _ h lk)
      · cases h
    · cases h
  · exact (show SW M k p lk e ie from ih _ h lk).st
theorem chk_W {p : Plc} {e : Expr} {ie : IE} (ih : ∀ ob, chk c n ob = true → Means M k ob) (h : chk c (n + 1) (.W p e ie) = true) : ∀ lk, SW M k p lk e ie := by
  intro lk
  simp only [chk] at h
  split at h
  · exact sW_and1 (ih _ h lk)
  · exact sW_or1 (ih _ h lk)
  · split at h
    · rw [Bool.and_eq_true] at h
      exact sW_and (ih _ h.1 lk) (ih _ h.2 lk)
    · cases h
  · split at h
    · rw [Bool.and_eq_true] at h
      exact sW_or (ih _ h.1 lk) (ih _ h.2 lk)
    · cases h
  · cases h
end
end IV

set_option linter.all false
set_option Elab.async false
set_option maxRecDepth 100000
set_option maxHeartbeats 4000000
/-! IVj: the Boolean is right, the rest (own work). -/
namespace IV
open PySem L2 PySem.Spec PyProof.Rows

section
variable {M : Mdl} {k : Nat} {c : Ck} {n : Nat}

theorem chk_O {p : Plc} {e : Option Expr} {ie : IE} (ih : ∀ ob, chk c n ob = true → Means M k ob) (h : chk c (n + 1) (.O p e ie) = true) : ∀ lk, SO M k p lk e ie := by
  intro lk
  simp only [chk] at h
  split at h
  · split at h
    · exact sO_none
    · cases h
  · simp only [Bool.and_eq_true, Bool.not_eq_true'] at h
    exact sO_some (ih _ h.2 lk) h.1
theorem chk_A {p : Plc} {es : List Expr} {ies : List IE} (ih : ∀ ob, chk c n ob = true → Means M k ob) (h : chk c (n + 1) (.A p es ies) = true) : ∀ lk, SA M k p lk es ies := by
  intro lk
  simp only [chk] at h
  split at h
  · exact sA_nil
  · split at h
    · split at h
      · rw [Bool.and_eq_true] at h
        exact sA_star (ih _ h.1 lk) (ih _ h.2 lk)
      · cases h
    · simp only [Bool.and_eq_true, Bool.not_eq_true'] at h
      exact sA_cons (star_ok h.1.1.2) h.1.1.1 (ih _ h.1.2 lk) (ih _ h.2 lk)
  · cases h
theorem chk_K {p : Plc} {es : List Expr} {ies : List IE} (ih : ∀ ob, chk c n ob = true → Means M k ob) (h : chk c (n + 1) (.K p es ies) = true) : ∀ lk, SK M k p lk es ies := by
  intro lk
  simp only [chk] at h
  split at h
  · exact sK_nil
  · simp only [Bool.and_eq_true, Bool.not_eq_true'] at h
    exact sK_cons (star_ok h.1.1) (ih _ h.1.2 lk) (ih _ h.2 lk)
  · cases h
theorem chk_Q {p : Plc} {es : List Expr} {ies : List IE} (ih : ∀ ob, chk c n ob = true → Means M k ob) (h : chk c (n + 1) (.Q p es ies) = true) : ∀ lk, STs M k p lk es ies := by
  intro lk
  simp only [chk] at h
  split at h
  · exact sTs_nil
  · exact sTs_one (ih _ h lk)
  · cases h
theorem chk_L {p : Plc} {es : List Expr} {ies : List IE} {os : List Bool} (ih : ∀ ob, chk c n ob = true → Means M k ob) (h : chk c (n + 1) (.L p es ies os) = true) : ∀ lk, Els M k p lk es ies os := by
  intro lk
  simp only [chk] at h
  split at h
  · exact True.intro
  · rename_i e es ie ies o os
    simp only [Bool.and_eq_true] at h
    refine ⟨h.1.1, ?_, ih _ h.2 lk⟩
    cases o with
    | true => exact ih _ h.1.2 lk
    | false => exact ih _ h.1.2 lk
  · cases h
theorem chk_B {p : Plc} {fr : Bool} {sts : List Stmt} {iss : List IS} (ih : ∀ ob, chk c n ob = true → Means M k ob) (h : chk c (n + 1) (.B p fr sts iss) = true) : ∀ lk, SSs M k p lk fr sts iss := by
  intro lk
  simp only [chk] at h
  split at h
  · exact ss_nil
  · rw [Bool.and_eq_true] at h
    exact ss_cons (ih _ h.1 lk) (ih _ h.2 lk)
  · cases h
theorem one_of {ies : List IE} (h : ies.length = 1) : ∃ ie, ies = [ie] := by
  match ies, h with
  | [ie], _ => exact ⟨ie, rfl⟩
theorem two_of {ies : List IE} (h : ies.length = 2) : ∃ ie ie', ies = [ie, ie'] := by
  match ies, h with
  | [ie, ie'], _ => exact ⟨ie, ie', rfl⟩
theorem base_all {o : Expr} {name : Str} (h : plainBase o = true) : ∀ env w, attributeBase o name env w = w := fun env w => by
  cases o <;> first | rfl | cases h
theorem chk_I {p : Plc} {tg iter : Expr} {kk : IK} {ies : List IE} (mo : MOk M) (ih : ∀ ob, chk c n ob = true → Means M k ob) (h : chk c (n + 1) (.I p tg iter kk ies) = true) : ∀ lk, SI M k p lk tg iter kk ies := by
  intro lk
  simp only [chk] at h
  cases kk with
  | seq =>
    simp only at h
    split at h
    · simp only [Bool.and_eq_true, Bool.not_eq_true'] at h
      exact sI_seq (star_ok h.1) (ih _ h.2 lk)
    · cases h
  | rng =>
    simp only at h
    split at h
    · simp only [Bool.and_eq_true, Bool.not_eq_true', decide_eq_true_eq] at h
      obtain ⟨⟨⟨⟨⟨rfl, hg⟩, hs⟩, hst⟩, hl⟩, hA⟩ := h
      obtain ⟨ie, rfl⟩ := one_of hl
      simp only [List.any_cons, List.any_nil, Bool.or_false] at hst
      exact sI_rng1 mo hg hs (star_ok hst) (ih _ hA lk)
    · simp only [Bool.and_eq_true, Bool.not_eq_true', decide_eq_true_eq] at h
      obtain ⟨⟨⟨⟨⟨⟨rfl, hg⟩, hs⟩, hs'⟩, hst⟩, hl⟩, hA⟩ := h
      obtain ⟨ie, ie', rfl⟩ := two_of hl
      simp only [List.any_cons, List.any_nil, Bool.or_false, Bool.or_eq_false_iff] at hst
      exact sI_rng2 mo hg hs hs' (star_ok hst.1) (star_ok hst.2) (ih _ hA lk)
    · cases h
  | enum =>
    simp only at h
    split at h
    · simp only [Bool.and_eq_true, Bool.not_eq_true', decide_eq_true_eq] at h
      obtain ⟨⟨⟨⟨rfl, hg⟩, hs⟩, hl⟩, hA⟩ := h
      obtain ⟨ie, rfl⟩ := one_of hl
      exact sI_enum mo hg hs (ih _ hA lk)
    · cases h
  | zip =>
    simp only at h
    split at h
    · simp only [Bool.and_eq_true, Bool.not_eq_true', decide_eq_true_eq] at h
      obtain ⟨⟨⟨⟨⟨rfl, hg⟩, hs⟩, hs'⟩, hl⟩, hA⟩ := h
      obtain ⟨ie, ie', rfl⟩ := two_of hl
      exact sI_zip mo hg hs hs' (ih _ hA lk)
    · cases h
  | items =>
    simp only at h
    split at h
    · simp only [Bool.and_eq_true, Bool.not_eq_true', decide_eq_true_eq] at h
      obtain ⟨⟨⟨rfl, hb⟩, hl⟩, hA⟩ := h
      split at hA
      · simp only [Bool.and_eq_true, Bool.not_eq_true'] at hA
        exact sI_items (star_ok hA.1) (ih _ hA.2 lk) (base_all hb) hl
      · cases hA
    · cases h
  | vals =>
    simp only at h
    split at h
    · simp only [Bool.and_eq_true, Bool.not_eq_true', decide_eq_true_eq] at h
      obtain ⟨⟨⟨rfl, hb⟩, hl⟩, hA⟩ := h
      split at hA
      · simp only [Bool.and_eq_true, Bool.not_eq_true'] at hA
        exact sI_vals (star_ok hA.1) (ih _ hA.2 lk) (base_all hb) hl
      · cases hA
    · cases h
theorem chk_S {p : Plc} {fr : Bool} {st : Stmt} {is : IS} (ok : CkOk c M) (co : ClsOk M) (ih : ∀ ob, chk c n ob = true → Means M k ob) (h : chk c (n + 1) (.S p fr st is) = true) : ∀ lk, SS M k p lk fr st is := by
  intro lk
  simp only [chk] at h
  split at h
  · split at h
    · rw [Bool.and_eq_true, Bool.or_eq_true, Bool.and_eq_true] at h
      obtain ⟨hb, ⟨hc, he⟩ | h⟩ := h
      · exact ss_asg hb hc (ih _ he lk)
      · split at h
        · obtain ⟨tg, iter, ifs, rfl, rfl, hI, hbl, hT, hsub, hQ, hE, hs⟩ := comp_all ih h
          exact ss_asgC hb (hI lk) hbl (ownNames_snd _ _) hT hsub (hQ lk) (hE lk) hs
        · cases h
    · cases h
  · split at h
    · rw [Bool.and_eq_true, Bool.or_eq_true, Bool.and_eq_true] at h
      obtain ⟨hb, ⟨hc, he⟩ | h⟩ := h
      · exact ss_own hb hc (ih _ he lk)
      · split at h
        · obtain ⟨tg, iter, ifs, rfl, rfl, hI, hbl, hT, hsub, hQ, hE, hs⟩ := comp_all ih h
          exact ss_ownC hb (hI lk) hbl (ownNames_snd _ _) hT hsub (hQ lk) (hE lk) hs
        · cases h
    · cases h
  · exact ss_fz (ih _ h lk)
  · split at h
    · simp only [Bool.and_eq_true] at h
      exact ss_unp h.1.1.1 h.1.1.2 h.1.2 (ih _ h.2 lk)
    · cases h
  · split at h
    · simp only [Bool.and_eq_true] at h
      exact ss_par h.1.1 (ih _ h.2 lk) h.1.2
    · cases h
  · split at h
    · simp only [Bool.and_eq_true] at h
      exact ss_set h.1.1.1.1 h.1.1.1.2 h.1.1.2 (ih _ h.1.2 lk) (ih _ h.2 lk)
    · cases h
  · split at h
    · simp only [Bool.and_eq_true, decide_eq_true_eq] at h
      obtain ⟨⟨⟨⟨rfl, hx⟩, hl⟩, hs⟩, he⟩ := h
      exact ss_app hx hl hs (ih _ he lk)
    · cases h
  · split at h
    · simp only [Bool.and_eq_true] at h
      exact ss_expr h.1 (ih _ h.2 lk)
    · cases h
  · split at h
    · simp only [Bool.and_eq_true, Bool.not_eq_true'] at h
      exact ss_ret (ih _ h.2 lk) h.1
    · cases h
  · split at h
    · simp only [Bool.and_eq_true] at h
      exact ss_retN (ih _ h.2 lk) h.1
    · cases h
  · split at h
    · simp only [Bool.and_eq_true] at h
      exact ss_retO h.2 h.1
    · cases h
  · split at h
    · simp only [Bool.and_eq_true] at h
      exact ss_if (ih _ h.1.1 lk) (ih _ h.1.2 lk) (ih _ h.2 lk)
    · cases h
  · split at h
    · simp only [Bool.and_eq_true] at h
      exact ss_for (ih _ h.1.2 lk) h.1.1.1 (ih _ h.2 lk) (notSet_ok h.1.1.2)
    · cases h
  · split at h
    · simp only [Bool.and_eq_true] at h
      exact ss_while (ih _ h.1 lk) (ih _ h.2 lk)
    · cases h
  · split at h
    · exact ss_pass
    · cases h
  · split at h
    · exact ss_brk
    · cases h
  · split at h
    · exact ss_cont
    · cases h
  · exact ss_bad
  · cases h
  · split at h
    · simp only [Bool.and_eq_true, decide_eq_true_eq] at h
      obtain ⟨⟨⟨h1, h2⟩, h3⟩, h4⟩ := h
      rw [isNil_ok h4]
      exact ss_rais co (by rw [ok.rs]; exact h3) (by rw [ok.cnm]; exact h1) h2
    · cases h
  · split at h
    · simp only [Bool.and_eq_true, decide_eq_true_eq] at h
      obtain ⟨⟨⟨⟨⟨⟨⟨⟨h1, h2⟩, h3⟩, h4⟩, h5⟩, h6⟩, h7⟩, rfl⟩, h9⟩ := h
      obtain ⟨v, hv⟩ := ok.hc _ h2
      exact ss_tryK co h1 hv (by rw [ok.cnm]; exact h3) h4 h5 h6 h7 (ih _ h9 lk)
    · cases h
theorem chk_ok (ok : CkOk c M) (mo : MOk M) (co : ClsOk M) (gl : GlsOk M) (fo : FnsOk M k) : ∀ n ob, chk c n ob = true → Means M k ob
  | 0, ob, h => by simp only [chk] at h; cases h
  | n + 1, .E p e ie, h => chk_E ok mo co gl fo (chk_ok ok mo co gl fo n) h
  | n + 1, .N p e ie, h => chk_N ok mo fo (chk_ok ok mo co gl fo n) h
  | n + 1, .T p e ie, h => chk_T (chk_ok ok mo co gl fo n) h
  | n + 1, .W p e ie, h => chk_W (chk_ok ok mo co gl fo n) h
  | n + 1, .O p e ie, h => chk_O (chk_ok ok mo co gl fo n) h
  | n + 1, .A p es ies, h => chk_A (chk_ok ok mo co gl fo n) h
  | n + 1, .K p es ies, h => chk_K (chk_ok ok mo co gl fo n) h
  | n + 1, .I p tg iter kk ies, h => chk_I mo (chk_ok ok mo co gl fo n) h
  | n + 1, .Q p es ies, h => chk_Q (chk_ok ok mo co gl fo n) h
  | n + 1, .L p es ies os, h => chk_L (chk_ok ok mo co gl fo n) h
  | n + 1, .S p fr st is, h => chk_S ok co (chk_ok ok mo co gl fo n) h
  | n + 1, .B p fr st is, h => chk_B (chk_ok ok mo co gl fo n) h
end
end IV

set_option linter.all false
set_option Elab.async false
set_option maxRecDepth 100000
set_option maxHeartbeats 4000000
/-! IVk: all defs together, and the law (own work). -/
namespace IV
open PySem L2 PySem.Spec PyProof.Rows

/-- a def: its name, its text, its names, its tree -/
structure Rw where
  x : Str
  st : Stmt
  N : List Str
  ps : List Str
  Fn : IFun
def rwFn (rows : List Rw) (f : Nat) : Option IFun := (rows[f]?).map (·.Fn)
def rwNm (rows : List Rw) (f : Nat) : Str := ((rows[f]?).map (·.x)).getD ""
def rwPs (rows : List Rw) (f : Nat) : List Str := ((rows[f]?).map (·.ps)).getD []
structure RowB (r : Rw) : Prop where
  bd : ∀ (kV doc pm : Value) (an : Option Addr) (cdv ct : Value) (us : List Value), us.length = r.ps.length → bindArgs (PySem.W.fnOf r.x r.x (defArgs r.st) (defBody r.st) (defScope r.st) .none kV doc pm an cdv ct) ⟨us, []⟩ = pure (r.ps.zip us)
  kb : ∀ n ks, (n, ks) ∈ r.Fn.kws → ∀ (kV doc pm : Value) (an : Option Addr) (cdv ct : Value) (us ws zs : List Value), us.length = n → ws.length = ks.length → arr r.Fn.np us ks ws = some zs →
    bindArgs (PySem.W.fnOf r.x r.x (defArgs r.st) (defBody r.st) (defScope r.st) .none kV doc pm an cdv ct) ⟨us, (ks.map fun j => r.ps.getD j "").zip ws⟩ = pure (r.ps.zip zs)
def RowK (K : PySem.W.Frag) (r : Rw) : Prop := ∃ (f : Addr) (oc : Value) (od : Option Addr) (kV dc pm : Value) (an : Option Addr) (cd ct : Value) (sl : Array (Option Value)),
  PySem.W.nsIn K mainGlobals r.x = some (some (.ref f)) ∧ K.lookup f = some ⟨oc, od, .func (PySem.W.fnOf r.x r.x (defArgs r.st) (defBody r.st) (defScope r.st) .none kV dc pm an cd ct), sl⟩ ∧ PySem.W.codeIn K cd r.x = true ∧ PySem.W.keepIn K (.ref f) = true
/-- what is looked up of a def's text -/
def chkRow (c : Ck) (n : Nat) (r : Rw) : Bool :=
  decide ((defScope r.st).kind = .function) && decide ((defScope r.st).isCoroutine = false) && decide ((defScope r.st).isGenerator = false) && decide (r.N.Nodup) && decide (r.N.take r.ps.length = r.ps) &&
    (r.ps.all fun x => locOf (defScope r.st) x) && ((defScope r.st).names.all fun y => decide (y.2 ≠ .free)) && decide (r.N.length = r.Fn.ns) && decide (r.ps.length = r.Fn.np) && decide (r.Fn.np ≤ r.Fn.ns) && !(r.x == ("__debug__" : Str)) && r.Fn.nat.isNone &&
    chk c n (.B (plcOf r.N (defScope r.st)) r.Fn.fresh (defBody r.st) r.Fn.body)
section
variable {M : Mdl} {c : Ck} {n : Nat} {rows : List Rw}
theorem fnOk0 {f : Nat} {fa : Addr} {fd : FuncData} {ps : List Str} : FnOk M.P M.w M.K M.mg M.base (L2.CX M.P M.w) 0 fa fd ps (spF M 0 f) := by
  refine ⟨fun vs H Q E h => ?_, fun A outer s H args us vs Q E _ _ _ _ h => ?_⟩ <;>
  · obtain ⟨Fn, as, F, G, _, _, _, hp⟩ := h
    exact hp.elim
theorem rows_ok {h : Heap} (X : M.K.In h) (G : h.Ns mainGlobals M.mg) (ok : CkOk c M) (mo : MOk M) (co : ClsOk M) (gl : GlsOk M) (e1 : c.fn = rwFn rows) (e2 : c.fnm = rwNm rows) (e3 : c.pnm = rwPs rows) (hc : rows.all (chkRow c n) = true) (hB : ∀ r ∈ rows, RowB r) (hK : ∀ r ∈ rows, RowK M.K r) : ∀ k, FnsOk M k ∧ ∀ f r, rows[f]? = some r → ∀ fa fd, Fun M.K r.x r.x r.st fa fd → FnOk M.P M.w M.K M.mg M.base (L2.CX M.P M.w) k fa fd r.ps (spF M k f) := by
  have step : ∀ k, FnsOk M k → ∀ f r, rows[f]? = some r → ∀ fa fd, Fun M.K r.x r.x r.st fa fd → FnOk M.P M.w M.K M.mg M.base (L2.CX M.P M.w) (k + 1) fa fd r.ps (spF M (k + 1) f) := fun k fo f r hr fa fd Fu => by
    have hm : r ∈ rows := List.mem_of_getElem? hr
    have h1 := List.all_eq_true.mp hc r hm
    unfold chkRow at h1
    simp only [Bool.and_eq_true, decide_eq_true_eq, Bool.not_eq_true', List.all_eq_true, Option.isNone_iff_eq_none] at h1
    obtain ⟨⟨⟨⟨⟨⟨⟨⟨⟨⟨⟨⟨a1, a2⟩, a3⟩, a4⟩, a5⟩, a6⟩, a7⟩, a8⟩, a9⟩, a10⟩, a11⟩, a12⟩, a13⟩ := h1
    have S : FnScope r.N r.ps (defScope r.st) := ⟨a1, a2, a3, a4, a5, fun x hx => (by
      have := a6 x hx
      unfold locOf at this
      split at this
      · rename_i e; exact .inl e
      · rename_i e; exact .inr e
      · cases this), fun y hy => a7 y hy⟩
    have hf : M.T.fn f = some r.Fn := by rw [ok.fn, e1]; unfold rwFn; rw [hr]; rfl
    exact fn_ok Fu hf a12 S a8 a9 a10 (chk_ok ok mo co gl fo n _ a13)
  have all : ∀ k, FnsOk M k ∧ ∀ f r, rows[f]? = some r → ∀ fa fd, Fun M.K r.x r.x r.st fa fd → FnOk M.P M.w M.K M.mg M.base (L2.CX M.P M.w) k fa fd r.ps (spF M k f) := by
    have mk : ∀ k, (∀ f r, rows[f]? = some r → ∀ fa fd, Fun M.K r.x r.x r.st fa fd → FnOk M.P M.w M.K M.mg M.base (L2.CX M.P M.w) k fa fd r.ps (spF M k f)) → FnsOk M k := fun k hF f Fn hf => by
      rw [ok.fn, e1] at hf
      unfold rwFn at hf
      cases hr : rows[f]? with
      | none => rw [hr] at hf; cases hf
      | some r =>
        rw [hr] at hf
        cases hf
        have hm : r ∈ rows := List.mem_of_getElem? hr
        obtain ⟨fa, oc, od, kV, dc, pm, an, cd, ct, sl, k1, k2, k3, k4⟩ := hK r hm
        have Fu := fun_mk (st := r.st) k2 k3 k4
        have hnm : M.fnm f = r.x := by rw [ok.fnm, e2]; unfold rwNm; rw [hr]; rfl
        have hps : M.pnm f = r.ps := by rw [ok.pnm, e3]; unfold rwPs; rw [hr]; rfl
        have h1 := List.all_eq_true.mp hc r hm
        unfold chkRow at h1
        simp only [Bool.and_eq_true, decide_eq_true_eq, Bool.not_eq_true'] at h1
        refine ⟨fa, PySem.W.fnOf r.x r.x (defArgs r.st) (defBody r.st) (defScope r.st) .none kV dc pm an cd ct, ⟨by rw [hnm]; exact PySem.W.mg_of X G k1, k4, ?_, ?_, by rw [hnm]; exact h1.1.1.2, ?_, ?_⟩⟩
        · rw [hps]; exact Fu.binds ((hB r hm).bd)
        · rw [hps]; exact h1.1.1.1.1.2
        · rw [hps]; exact hF f r hr fa _ Fu
        · intro n ks hk s us ws zs _ l1 l2 ha
          rw [hps]
          exact .of_eq ((hB r hm).kb n ks hk _ _ _ _ _ _ us ws zs l1 l2 ha)
    intro k
    induction k with
    | zero => exact ⟨mk 0 fun f r hr fa fd Fu => fnOk0, fun f r hr fa fd Fu => fnOk0⟩
    | succ k ih => exact ⟨mk (k + 1) (step k ih.1), step k ih.1⟩
  exact all
end
/-- what the law is asked -/
def spL (K : PySem.W.Frag) : Sp := fun vs H Q _ => ∃ (a : Addr) (ns : List Int), vs = [.ref a] ∧ SqL K H a (ns.map V.int) ∧ ns.length ≤ 63 ∧ ∀ H', Q (.bl true) H'
theorem law_sp {M : Mdl} {k f : Nat} {Fn : IFun} (hf : M.T.fn f = some Fn) (hnp : Fn.np = 1) (hfr : Fn.fresh = false) (hlaw : ∀ ns : List Int, ns.length ≤ 63 → ∃ outs, callF M.T k f [.fz (.lst (ns.map .int))] = .ok (.bl true, outs)) (vs : List V) (H : Hp) (Q : VK) (E : XK) (h : spL M.K vs H Q E) : spF M k f vs H Q E := by
  obtain ⟨a, ns, rfl, hs, hl, q⟩ := h
  obtain ⟨outs, hc⟩ := hlaw ns hl
  refine ⟨Fn, [.fz (.lst (ns.map .int))], fun b => if b = a then H b else none, fun _ => none, hf, hnp.symm, ?_, ?_⟩
  · have hat : ∀ {b : Addr}, b = a → (fun b => if b = a then H b else none : Hp) b = H b := fun {b} e => if_pos e
    have hof : ∀ {b : Addr} {u : HO}, (if b = a then H b else none) = some u → H b = some u := fun {b u} e => by
      split at e
      · exact e
      · cases e
    refine ⟨⟨fun b u r => ?_, fun b u hu r => hof r, fun b ob u r => hof r⟩, fun b u r => (by cases r), fun b _ => rfl, rfl, fun i => ?_, fun i j b _ h1 _ => ?_⟩
    · rcases r with r | ⟨ob, r⟩
      · exact .inl (hof r)
      · exact .inr ⟨ob, hof r⟩
    · cases i with
      | zero =>
        refine ⟨.ref a, rfl, .lst (vs := ns.map V.int) ?_ (Reps.of_ints ns)⟩
        rcases hs with (hs | ⟨ob, hs⟩) | hs
        · exact .inl (.inl ((hat rfl).trans hs))
        · exact .inl (.inr ⟨ob, (hat rfl).trans hs⟩)
        · exact .inr hs
      | succ i => rw [getE_cons_succ, getE_nil]; trivial
    · obtain ⟨⟨d, e⟩, _⟩ := h1
      cases i with
      | zero => cases e
      | succ i => rw [getE_cons_succ, getE_nil] at e; cases e
  · rw [hc]
    intro F' H' x S
    unfold PR
    rw [hfr]
    intro v r
    cases r
    exact q H'
end IV

set_option linter.all false
set_option Elab.async false
set_option maxRecDepth 100000
set_option maxHeartbeats 4000000
/-! IVl: a law by its rows (own work). -/
namespace IV
open PySem L2 PySem.Spec PyProof.Rows

def mdl (P : Program) (w : World) (K : PySem.W.Frag) (mg : Str → Option Value) (T : Tab) (c : Ck) (cl : Nat → Option Addr) (cv : Nat → Option Value) (base : Heap) : Mdl :=
  { P := P, w := w, K := K, mg := mg, base := base, T := T, cl := cl, fnm := c.fnm, gnm := c.gnm, pnm := c.pnm, cnm := c.cnm, cv := cv, rs := c.rs }
theorem law_glue {P : Program} {w : World} {K : PySem.W.Frag} {mg : Str → Option Value} {h : Heap} {T : Tab} {c : Ck} {cl : Nat → Option Addr} {cv : Nat → Option Value} {rows : List Rw} {n k f : Nat} {r : Rw} {x nm : Str} {fa : Addr} (X : K.In h) (G : h.Ns mainGlobals mg) (hfa : mg nm = some (.ref fa))
    (hT : T.fn = c.fn) (hhc : ∀ i, c.hc i = true → ∃ v, cv i = some v) (mo : ∀ y ∈ bnames, mg y = none) (co : ∀ base, ClsOk (mdl P w K mg T c cl cv base)) (gl : ∀ base, GlsOk (mdl P w K mg T c cl cv base))
    (e1 : c.fn = rwFn rows) (e2 : c.fnm = rwNm rows) (e3 : c.pnm = rwPs rows) (hc : rows.all (chkRow c n) = true) (hB : ∀ r ∈ rows, RowB r) (hK : ∀ r ∈ rows, RowK K r) (hr : rows[f]? = some r) (hx : r.x = nm) (hps : r.ps = [x]) (hnp : r.Fn.np = 1) (hfr : r.Fn.fresh = false)
    (hlaw : ∀ ns : List Int, ns.length ≤ 63 → ∃ outs, callF T k f [.fz (.lst (ns.map .int))] = .ok (.bl true, outs)) :
    ∃ fd : FuncData, (∀ (s : Shared) (u : Value), BindsTo s fd ⟨[u], []⟩ [(x, u)]) ∧ ∀ base : Heap, K.In base → base.Ns mainGlobals mg → FnOk P w K mg base (L2.CX P w) k fa fd [x] (spL K) := by
  have hm : r ∈ rows := List.mem_of_getElem? hr
  obtain ⟨fa', oc, od, kV, dc, pm, an, cd, ct, sl, k1, k2, k3, k4⟩ := hK r hm
  have Fu := fun_mk (st := r.st) k2 k3 k4
  have e := hfa.symm.trans (hx ▸ PySem.W.mg_of X G k1)
  cases e
  refine ⟨PySem.W.fnOf r.x r.x (defArgs r.st) (defBody r.st) (defScope r.st) .none kV dc pm an cd ct, fun s u => ?_, fun base Xb Gb => ?_⟩
  · have := (hB r hm).bd kV dc pm an cd ct [u] (by rw [hps]; rfl)
    rw [hps] at this
    exact .of_eq this
  · have ok : CkOk c (mdl P w K mg T c cl cv base) := ⟨rfl, rfl, hT, rfl, rfl, hhc, rfl⟩
    have A := (rows_ok (M := mdl P w K mg T c cl cv base) Xb Gb ok ⟨mo⟩ (co base) (gl base) e1 e2 e3 hc hB hK k).2 f r hr fa _ Fu
    rw [hps] at A
    have hf : (mdl P w K mg T c cl cv base).T.fn f = some r.Fn := by show T.fn f = _; rw [hT, e1]; unfold rwFn; rw [hr]; rfl
    have imp := fun vs H Q E => law_sp (M := mdl P w K mg T c cl cv base) (k := k) hf hnp hfr hlaw vs H Q E
    exact ⟨fun vs H Q E q => A.len vs H Q E (imp vs H Q E q), fun A' outer s H args us vs Q E a1 a2 a3 a4 q => A.run A' outer s H args us vs Q E a1 a2 a3 a4 (imp vs H Q E q)⟩
theorem walk_law {l : PySem.W.OpenLaw} {q : Program} {loose : List Str} {XP : (Str → Option Value) → Heap → Prop} {YP : World → Heap → Prop} {d : DefRec} {K : Params → PySem.W.Frag} {k : Nat} {x : Str} (hn : l.most = some 63) (hdf : d.params.defaults = []) (hr : Room k callerA)
    (hY : ∀ (w : World) (h : Heap), YP w h → (K w.params).In h)
    (F : ∀ (w : World) (mg : Str → Option Value) (fa : Addr) (h : Heap), (K w.params).In h → h.Ns mainGlobals mg → mg d.name = some (.ref fa) →
      ∃ fd : FuncData, (∀ (s : Shared) (u : Value), BindsTo s fd ⟨[u], []⟩ [(x, u)]) ∧ ∀ base : Heap, (K w.params).In base → base.Ns mainGlobals mg → FnOk l.prog w (K w.params) mg base (L2.CX l.prog w) k fa fd [x] (spL (K w.params))) :
    PySem.W.WalkO q loose XP YP l.row.toRowW d [] (fun f vs => PySem.call f vs) :=
  L2.walk_of (n := 63) (k := k) (x := x) (CX := fun w => L2.CX l.prog w) (sp := fun w => spL (K w.params)) hn (by decide) hdf hr hY F (fun _ _ a ns hl _ hS => ⟨a, ns, rfl, hS, hl, fun _ => rfl⟩) fun w H s e s' z => by
    obtain ⟨_, _, _, _, _, _, _, _, _, _, _, _, q⟩ := z
    exact q
end IV

set_option linter.all false
set_option Elab.async false
set_option maxRecDepth 100000
/-! IVp: the evaluator step by step, for plain laws (own work). -/
namespace IV
theorem bind_cong {α β : Type} {r r' : R α} {f : α → R β} (h : r = r') : R.bind r f = R.bind r' f := by rw [h]
/-- behind a def's body -/
def retF (fresh : Bool) (as : Env) : R (Fl × Env) → R (D × Env)
  | .ok (.ret d, e) => .ok (d, outsE as e)
  | .ok (.next, e) => if fresh then .no else .ok (.non, outsE as e)
  | .ok _ => .no
  | .ex c fs _ => .ex c fs []
  | .no => .no
theorem retF_ret (fresh : Bool) (as : Env) (d : D) (e : Env) : retF fresh as (.ok (.ret d, e)) = .ok (d, outsE as e) := rfl
theorem retF_ex (fresh : Bool) (as : Env) (c : Nat) (fs : List (PySem.Str × D)) (e : Env) : retF fresh as (.ex c fs e) = .ex c fs [] := rfl
theorem retF_next (as : Env) (e : Env) : retF false as (.ok (.next, e)) = .ok (.non, outsE as e) := rfl
/-- behind a statement -/
def thenS (f : Env → R (Fl × Env)) : R (Fl × Env) → R (Fl × Env)
  | .ok (.next, e) => f e
  | r => r
theorem thenS_cong {r r' : R (Fl × Env)} {f : Env → R (Fl × Env)} (h : r = r') : thenS f r = thenS f r' := by rw [h]
theorem thenS_next (f : Env → R (Fl × Env)) (e : Env) : thenS f (.ok (.next, e)) = f e := rfl
theorem thenS_ret (f : Env → R (Fl × Env)) (d : D) (e : Env) : thenS f (.ok (.ret d, e)) = .ok (.ret d, e) := rfl
theorem thenS_brk (f : Env → R (Fl × Env)) (e : Env) : thenS f (.ok (.brk, e)) = .ok (.brk, e) := rfl
theorem thenS_cont (f : Env → R (Fl × Env)) (e : Env) : thenS f (.ok (.cont, e)) = .ok (.cont, e) := rfl
theorem thenS_ex (f : Env → R (Fl × Env)) (c : Nat) (fs : List (PySem.Str × D)) (e : Env) : thenS f (.ex c fs e) = .ex c fs e := rfl
theorem evSs_n (T : Tab) (C : Nat → Env → R (D × Env)) (lk : Lk) (env : Env) : evSs T C lk [] env = .ok (.next, env) := by rw [evSs]
theorem evSs_c (T : Tab) (C : Nat → Env → R (D × Env)) (lk : Lk) (s : IS) (ss : List IS) (env : Env) : evSs T C lk (s :: ss) env = thenS (evSs T C lk ss) (evS T C lk s env) := by
  rw [evSs]
  cases evS T C lk s env with
  | no => rfl
  | ex _ _ _ => rfl
  | ok p =>
    obtain ⟨f, e⟩ := p
    cases f <;> rfl
theorem callF_eq {T : Tab} (k : Nat) {f : Nat} {F : IFun} (hf : T.fn f = some F) (hn : F.nat = none) {as : Env} (ha : as.length = F.np) : callF T (k + 1) f as = retF F.fresh as (evSs T (callF T k) (lockOf as) F.body (as ++ List.replicate (F.ns - F.np) .no)) := by
  rw [callF, hf]
  simp only [R.of_some, R.bind_ok, ha, if_true, hn]
  cases evSs T (callF T k) (lockOf as) F.body (as ++ List.replicate (F.ns - F.np) .no) with
  | no => rfl
  | ex _ _ _ => rfl
  | ok p =>
    obtain ⟨f, e⟩ := p
    cases f <;> rfl
theorem res_ow0 (d : D) (env : Env) : res (.ow d :: env) (.own 0) = d := rfl
theorem getE_z (x : Ent) (xs : Env) : getE (x :: xs) 0 = x := rfl
theorem getE_s (x : Ent) (xs : Env) (n : Nat) : getE (x :: xs) (n + 1) = getE xs n := rfl
theorem getE_n (n : Nat) : getE [] n = .no := by cases n <;> rfl
theorem setE_ok {lk : Lk} {i : Nat} {e : Ent} {env : Env} (h : lk i = false) (hi : i < env.length) : setE lk i e env = some (env.set i e) := by
  unfold setE
  rw [h, if_neg (by decide), if_pos hi]
@[simp] theorem res_non (env : Env) : res env .non = .non := rfl
@[simp] theorem res_bl (env : Env) (b : Bool) : res env (.bl b) = .bl b := rfl
@[simp] theorem res_int (env : Env) (i : Int) : res env (.int i) = .int i := rfl
@[simp] theorem res_str (env : Env) (s : PySem.Str) : res env (.str s) = .str s := rfl
@[simp] theorem res_tup (env : Env) (s : List D) : res env (.tup s) = .tup s := rfl
@[simp] theorem res_lst (env : Env) (s : List D) : res env (.lst s) = .lst s := rfl
theorem res_ow {env : Env} {i : Nat} {d : D} (h : getE env i = .ow d) : res env (.own i) = d := by
  simp only [res, h]
theorem cop_gt (i j : Int) : cop .gt (.int i) (.int j) = some (decide (j < i)) := rfl
theorem cop_ge (i j : Int) : cop .ge (.int i) (.int j) = some (decide (j ≤ i)) := rfl
theorem cop_lt (i j : Int) : cop .lt (.int i) (.int j) = some (decide (i < j)) := rfl
theorem cop_le (i j : Int) : cop .le (.int i) (.int j) = some (decide (i ≤ j)) := rfl
theorem bop_add (i j : Int) : bop .add (.int i) (.int j) = some (.int (i + j)) := rfl
theorem bop_sub (i j : Int) : bop .sub (.int i) (.int j) = some (.int (i - j)) := rfl
theorem bop_mul {i j : Int} (h : (small i || small j) = true) : bop .mul (.int i) (.int j) = some (.int (i * j)) := if_pos h
theorem bop_fdiv {i j : Int} (h : 0 < j) (h2 : j.natAbs.log2 < 9000) : bop .fdiv (.int i) (.int j) = some (.int (i.fdiv j)) := if_pos (by simp [h, h2])
theorem bop_mod {i j : Int} (h : 0 < j) : bop .mod (.int i) (.int j) = some (.int (i.fmod j)) := if_pos (by simp [h])
theorem bi_int (i : Int) : biD .int [.int i] = some (.int i) := rfl
theorem bi_intb (b : Bool) : biD .int [.bl b] = some (.int (if b then 1 else 0)) := rfl
theorem bi_abs (i : Int) : biD .abs [.int i] = some (.int (if i < 0 then -i else i)) := rfl
theorem bi_lenL (xs : List D) : biD .len [.lst xs] = some (.int xs.length) := rfl
theorem bi_lenT (xs : List D) : biD .len [.tup xs] = some (.int xs.length) := rfl
theorem truth_bl (b : Bool) : truth (.bl b) = some b := rfl
theorem isOwn_int (i : Int) : isOwn (.int i) = false := rfl
theorem isOwn_bl (i : Bool) : isOwn (.bl i) = false := rfl
theorem isOwn_str (i : PySem.Str) : isOwn (.str i) = false := rfl
theorem isOwn_non : isOwn .non = false := rfl
theorem isOwn_tup (i : List D) : isOwn (.tup i) = false := rfl
theorem isOwn_lst (i : List D) : isOwn (.lst i) = false := rfl
theorem isOwn_own (i : Nat) : isOwn (.own i) = true := rfl

/-! ### calls -/
def entsOf (env : Env) : List D → Option Env
  | [] => some []
  | d :: ds => (entOf env d).bind fun e => (entsOf env ds).map (e :: ·)
theorem mapM_ents (env : Env) : ∀ ds : List D, ds.mapM (entOf env) = entsOf env ds
  | [] => rfl
  | d :: ds => by
    rw [List.mapM_cons, mapM_ents env ds]
    show _ = (entOf env d).bind fun e => (entsOf env ds).map (e :: ·)
    cases entOf env d with
    | none => rfl
    | some e => cases entsOf env ds <;> rfl
theorem mapM_some_of {α β : Type} (f : α → Option β) (g : α → β) : ∀ l : List α, (∀ x ∈ l, f x = some (g x)) → l.mapM f = some (l.map g)
  | [], _ => rfl
  | x :: l, h => by
    rw [List.mapM_cons, h x List.mem_cons_self, mapM_some_of f g l fun y hy => h y (List.mem_cons_of_mem _ hy)]
    rfl
theorem arr_self {ds : List D} {np : Nat} (h : ds.length = np) : arr np ds [] [] = some ds := by
  subst h
  unfold arr
  rw [if_pos (Nat.le_refl _), mapM_some_of _ (fun i => ds.getD i .non)]
  · congr 1
    apply List.ext_getElem
    · simp
    · intro i h1 h2
      simp [List.getD, h2]
  · intro i hi
    have hi : i < ds.length := by simpa using hi
    rw [if_pos hi, List.getD_eq_getElem?_getD, List.getElem?_eq_getElem hi]
    rfl
/-- the call itself, its arguments as data -/
def callD (C : Nat → Env → R (D × Env)) (f : Nat) (ds : List D) (env : Env) : R (D × Env) :=
  if nodupOwn ds [] then (R.of (entsOf env ds)).bind fun as => callR ds env (C f as) else .no
theorem ev_call {T : Tab} {C : Nat → Env → R (D × Env)} {lk : Lk} {f : Nat} {F : IFun} {es : List IE} {env env' : Env} {ds : List D} (hf : T.fn f = some F) (he : evEs T C lk es env = .ok (ds, env')) (hl : ds.length = F.np) : evE T C lk (.call f es []) env = callD C f ds env' := by
  rw [evE, he]
  simp only [R.bind_ok, hf, R.of_some, List.length_nil, Nat.sub_zero, List.take_length, List.drop_length, arr_self hl, mapM_ents]
  rfl
theorem ev_callK {T : Tab} {C : Nat → Env → R (D × Env)} {lk : Lk} {f : Nat} {F : IFun} {es : List IE} {ks : List Nat} {env env' : Env} {ds ds' : List D} (hf : T.fn f = some F) (he : evEs T C lk es env = .ok (ds, env')) (hl : arr F.np (ds.take (ds.length - ks.length)) ks (ds.drop (ds.length - ks.length)) = some ds') : evE T C lk (.call f es ks) env = callD C f ds' env' := by
  rw [evE, he]
  simp only [R.bind_ok, hf, R.of_some, hl, mapM_ents]
  rfl
theorem ev_call1 {T : Tab} {C : Nat → Env → R (D × Env)} {lk : Lk} {f : Nat} {F : IFun} {e : IE} {env env' : Env} {d : D} (hf : T.fn f = some F) (he : evE T C lk e env = .ok (d, env')) (ho : isObj d = true) (hn : F.np = 1) : evE T C lk (.call1 f e) env = (R.noEx (C f [.ow d])).bind fun r => .ok (r.1, env') := by
  rw [evE, he]
  simp only [R.bind_ok, ho, if_true, hf, R.of_some, hn]
theorem callD_ok {C : Nat → Env → R (D × Env)} {f : Nat} {ds : List D} {env as outs : Env} {d : D} (hn : nodupOwn ds [] = true) (he : entsOf env ds = some as) (hc : C f as = .ok (d, outs)) : callD C f ds env = .ok (d, putBack ds outs env) := by
  unfold callD
  rw [if_pos hn, he, R.of_some, R.bind_ok, hc]
  rfl
theorem callD_ex {C : Nat → Env → R (D × Env)} {f : Nat} {ds : List D} {env as e : Env} {c : Nat} {fs : List (PySem.Str × D)} (hn : nodupOwn ds [] = true) (he : entsOf env ds = some as) (hc : C f as = .ex c fs e) (ho : ds.any isOwn = false) : callD C f ds env = .ex c fs env := by
  unfold callD
  rw [if_pos hn, he, R.of_some, R.bind_ok, hc]
  unfold callR
  rw [ho]
  rfl
theorem entOf_no {d : D} (h : isOwn d = false) (env : Env) : entOf env d = some (.fz d) := by
  cases d <;> first | rfl | exact absurd (show true = false from h) (by decide)
theorem nodup_no : ∀ {ds : List D} {seen : List Nat}, ds.any isOwn = false → nodupOwn ds seen = true
  | [], _, _ => rfl
  | d :: ds, seen, h => by
    simp only [List.any_cons, Bool.or_eq_false_iff] at h
    have ih := nodup_no (seen := seen) h.2
    cases d <;> first | exact ih | exact absurd (show true = false from h.1) (by decide)
theorem ents_no : ∀ {ds : List D} {env : Env}, ds.any isOwn = false → entsOf env ds = some (ds.map .fz)
  | [], _, _ => rfl
  | d :: ds, env, h => by
    simp only [List.any_cons, Bool.or_eq_false_iff] at h
    show (entOf env d).bind (fun e => (entsOf env ds).map (e :: ·)) = _
    rw [entOf_no h.1, ents_no h.2]
    rfl
theorem putB_no : ∀ {ds : List D} {es env : Env}, ds.any isOwn = false → putBack ds es env = env
  | [], es, env, _ => by cases es <;> rfl
  | d :: ds, [], env, _ => by cases d <;> rfl
  | d :: ds, e :: es, env, h => by
    simp only [List.any_cons, Bool.or_eq_false_iff] at h
    have ih := putB_no (es := es) (env := env) h.2
    cases d <;> first | exact ih | exact absurd (show true = false from h.1) (by decide)
/-- a call that is given no object of ours -/
theorem callD_fz {C : Nat → Env → R (D × Env)} {f : Nat} {ds : List D} {d : D} {o : Env} (h : ds.any isOwn = false) (hc : C f (ds.map .fz) = .ok (d, o)) (env : Env) : callD C f ds env = .ok (d, env) := by
  rw [callD_ok (nodup_no h) (ents_no h) hc, putB_no h]
theorem callD_fx {C : Nat → Env → R (D × Env)} {f : Nat} {ds : List D} {c : Nat} {fs : List (PySem.Str × D)} {o : Env} (h : ds.any isOwn = false) (hc : C f (ds.map .fz) = .ex c fs o) (env : Env) : callD C f ds env = .ex c fs env := callD_ex (nodup_no h) (ents_no h) hc h
/-- .. and an object that the first name owns -/
theorem callD_ow {C : Nat → Env → R (D × Env)} {f : Nat} {ds : List D} {u u' : D} {d : D} {o : Env} (h : ds.any isOwn = false) (hc : C f (.ow u :: ds.map .fz) = .ok (d, .ow u' :: o)) (rest : Env) : callD C f (.own 0 :: ds) (.ow u :: rest) = .ok (d, .ow u' :: rest) := by
  have e1 : nodupOwn (.own 0 :: ds) [] = true := by
    show (!([] : List Nat).contains 0 && nodupOwn ds [0]) = true
    rw [nodup_no h]; rfl
  have e2 : entsOf (.ow u :: rest) (.own 0 :: ds) = some (.ow u :: ds.map .fz) := by
    show (some (Ent.ow u)).bind (fun e => (entsOf (.ow u :: rest) ds).map (e :: ·)) = _
    rw [ents_no h]; rfl
  rw [callD_ok e1 e2 hc]
  show R.ok (d, putBack ds o (.ow u' :: rest)) = _
  rw [putB_no h]
/-! ### loops -/
theorem loopS_inv {step : D → Env → R (Fl × Env)} (I : Nat → Env → Prop) : ∀ (xs : List D) (n : Nat) (env : Env), I n env → (∀ i x env, xs[i]? = some x → I (n + i) env → ∃ env', step x env = .ok (.next, env') ∧ I (n + i + 1) env') → ∃ env', loopS step xs env = .ok (.next, env') ∧ I (n + xs.length) env'
  | [], n, env, h, _ => ⟨env, rfl, h⟩
  | x :: xs, n, env, h, hs => by
    obtain ⟨e1, h1, h2⟩ := hs 0 x env rfl h
    obtain ⟨e2, h3, h4⟩ := loopS_inv I xs (n + 1) e1 h2 fun i y env hy hi => by
      obtain ⟨e', q1, q2⟩ := hs (i + 1) y env hy (by rw [show n + (i + 1) = n + 1 + i by omega]; exact hi)
      exact ⟨e', q1, by rw [show n + 1 + i + 1 = n + (i + 1) + 1 by omega]; exact q2⟩
    refine ⟨e2, ?_, by rw [List.length_cons, show n + (xs.length + 1) = n + 1 + xs.length by omega]; exact h4⟩
    rw [loopS, h1]
    exact h3
theorem loopC_map {step : D → Env → R (List D × Env)} {g : D → List D} {env : Env} : ∀ {xs : List D}, (∀ x ∈ xs, step x env = .ok (g x, env)) → loopC step xs env = .ok (xs.flatMap g, env)
  | [], _ => rfl
  | x :: xs, h => by
    rw [loopC, h x List.mem_cons_self, R.bind_ok, loopC_map fun y hy => h y (List.mem_cons_of_mem _ hy)]
    rfl
theorem set_get {env : Env} {i : Nat} (h : i < env.length) : (env.set i (getE env i)) = env := by
  unfold getE List.getD
  rw [List.getElem?_eq_getElem h]
  simp
theorem setE_some_of {lk : Lk} {i : Nat} {e : Ent} {env : Env} (h : lk i = false) (hi : i < env.length) : setE lk i e env = some (env.set i e) := setE_ok h hi
/-- a comprehension over one name, without effects -/
theorem ev_comp1 {T : Tab} {C : Nat → Env → R (D × Env)} {lk : Lk} {i : Nat} {kk : IK} {es ifs : List IE} {body : IE} {env : Env} {ds xs : List D} {t : D → Bool} {g : D → D} (he : evEs T C lk es env = .ok (ds, env)) (hno : ds.any isOwn = false) (hx : itD kk ds = some xs) (hi : i < env.length) (hl : lk i = false) (hw : noOw env [i] = true)
    (hb : ∀ x ∈ xs, isOwn x = false ∧ evTs T C lk ifs (env.set i (.fz x)) = .ok (t x, env.set i (.fz x)) ∧ (t x = true → evE T C lk body (env.set i (.fz x)) = .ok (g x, env.set i (.fz x)) ∧ isOwn (g x) = false)) (hlen : xs.length ≤ line) :
    evE T C lk (.comp [i] (.n i) kk es ifs true body) env = .ok (.lst ((xs.filter t).map g), env) := by
  rw [evE, he]
  simp only [R.bind_ok, hno, Bool.false_eq_true, if_false, hx, R.of_some, hw, if_true]
  rw [loopC_map (g := fun x => if t x then [g x] else [])]
  · have e : xs.flatMap (fun x => if t x then [g x] else []) = (xs.filter t).map g := by
      clear hx hb hlen
      induction xs with
      | nil => rfl
      | cons x xs ih =>
        rw [List.flatMap_cons, ih, List.filter_cons]
        cases t x <;> rfl
    rw [e]
    have hle : ((xs.filter t).map g).length ≤ line := by
      rw [List.length_map]
      exact Nat.le_trans (List.length_filter_le _ _) hlen
    simp only [R.noEx, R.bind_ok, if_pos hle]
    show R.ok _ = _
    congr 2
    show ((wipeE [i] env).set i (getE env i)) = env
    show ((env.set i .no).set i (getE env i)) = env
    rw [List.set_set, set_get hi]
  · intro x hx
    obtain ⟨h1, h2, h3⟩ := hb x hx
    have e1 : tgE lk (.n i) x (wipeE [i] env) = some (env.set i (.fz x)) := by
      show (if isOwn x then none else setE lk i (.fz x) (env.set i .no)) = _
      rw [h1, if_neg (by decide), setE_ok hl (by simpa using hi), List.set_set]
    have e2 : ∀ en, wipeE [i] (env.set i en) = wipeE [i] env := fun en => by
      show (env.set i en).set i .no = env.set i .no
      rw [List.set_set]
    simp only [e1, R.of_some, R.bind_ok, h2]
    cases ht : t x with
    | false => simp only [Bool.false_eq_true, if_false, e2]
    | true =>
      obtain ⟨h4, h5⟩ := h3 ht
      simp only [if_true, h4, R.bind_ok, h5, Bool.false_eq_true, if_false, e2]
/-- .. over two names -/
theorem ev_comp2 {T : Tab} {C : Nat → Env → R (D × Env)} {lk : Lk} {i j : Nat} {kk : IK} {es ifs : List IE} {body : IE} {env : Env} {ds xs : List D} {t : D → Bool} {g : D → D} (he : evEs T C lk es env = .ok (ds, env)) (hno : ds.any isOwn = false) (hx : itD kk ds = some xs) (hi : i < env.length) (hj : j < env.length) (hij : i ≠ j) (hl : lk i = false) (hlj : lk j = false) (hw : noOw env [i, j] = true)
    (hb : ∀ x ∈ xs, ∃ a b, (x = .tup [a, b] ∨ x = .lst [a, b]) ∧ isOwn a = false ∧ isOwn b = false ∧ evTs T C lk ifs ((env.set i (.fz a)).set j (.fz b)) = .ok (t x, (env.set i (.fz a)).set j (.fz b)) ∧ (t x = true → evE T C lk body ((env.set i (.fz a)).set j (.fz b)) = .ok (g x, (env.set i (.fz a)).set j (.fz b)) ∧ isOwn (g x) = false)) (hlen : xs.length ≤ line) :
    evE T C lk (.comp [i, j] (.t [i, j]) kk es ifs true body) env = .ok (.lst ((xs.filter t).map g), env) := by
  rw [evE, he]
  simp only [R.bind_ok, hno, Bool.false_eq_true, if_false, hx, R.of_some, hw, if_true]
  have wip : ∀ a b : Ent, wipeE [i, j] ((env.set i a).set j b) = wipeE [i, j] env := fun a b => by
    show (((env.set i a).set j b).set j .no).set i .no = (env.set j .no).set i .no
    rw [List.set_set, List.set_comm _ _ (Ne.symm hij), List.set_set, List.set_comm _ _ hij]
  rw [loopC_map (g := fun x => if t x then [g x] else [])]
  · have e : xs.flatMap (fun x => if t x then [g x] else []) = (xs.filter t).map g := by
      clear hx hb hlen
      induction xs with
      | nil => rfl
      | cons x xs ih =>
        rw [List.flatMap_cons, ih, List.filter_cons]
        cases t x <;> rfl
    rw [e]
    have hle : ((xs.filter t).map g).length ≤ line := by
      rw [List.length_map]
      exact Nat.le_trans (List.length_filter_le _ _) hlen
    simp only [R.noEx, R.bind_ok, if_pos hle]
    show R.ok _ = _
    congr 2
    show ((((env.set j .no).set i .no).set j (getE env j)).set i (getE env i)) = env
    rw [List.set_comm .no (getE env j) hij, List.set_set, List.set_set, set_get hj, set_get hi]
  · intro x hx
    obtain ⟨a, b, hab, h1, h1b, h2, h3⟩ := hb x hx
    have e1 : tgE lk (.t [i, j]) x (wipeE [i, j] env) = some ((env.set i (.fz a)).set j (.fz b)) := by
      have : tgE lk (.t [i, j]) x (wipeE [i, j] env) = setsE lk [i, j] [a, b] (wipeE [i, j] env) := by rcases hab with rfl | rfl <;> rfl
      rw [this]
      simp only [setsE, h1, h1b, Bool.false_eq_true, if_false]
      show (setE lk i (.fz a) ((env.set j .no).set i .no)).bind _ = _
      rw [setE_ok hl (by simpa using hi), Option.bind_some, setE_ok hlj (by simpa using hj), Option.bind_some, List.set_set, List.set_comm (Ent.no) (Ent.fz a) (Ne.symm hij), List.set_set]
    simp only [e1, R.of_some, R.bind_ok, h2]
    cases ht : t x with
    | false => simp only [Bool.false_eq_true, if_false, wip]
    | true =>
      obtain ⟨h4, h5⟩ := h3 ht
      simp only [if_true, h4, R.bind_ok, h5, Bool.false_eq_true, if_false, wip]
theorem evTs_nil (T : Tab) (C : Nat → Env → R (D × Env)) (lk : Lk) (env : Env) : evTs T C lk [] env = .ok (true, env) := by rw [evTs]
theorem filter_tt {α : Type} (l : List α) : l.filter (fun _ => true) = l := List.filter_eq_self.mpr fun _ _ => rfl
end IV

set_option linter.all false
set_option Elab.async false
set_option maxRecDepth 100000
/-! IVq: the evaluator's equations, so that simp goes along them lazily (own work). -/
namespace IV
theorem nst_c (d : D) : isStar (.c d) = false := rfl
theorem nst_v (i : Nat) : isStar (.v i) = false := rfl
theorem nst_ov (i : Nat) : isStar (.ov i) = false := rfl
theorem nst_g (i : Nat) : isStar (.g i) = false := rfl
theorem nst_tup (l : List IE) : isStar (.tup l) = false := rfl
theorem nst_lst (l : List IE) : isStar (.lst l) = false := rfl
theorem nst_bin (o : _) (a : IE) (b : IE) : isStar (.bin o a b) = false := rfl
theorem nst_neg (a : IE) : isStar (.neg a) = false := rfl
theorem nst_cmp (o : _) (a : IE) (b : IE) : isStar (.cmp o a b) = false := rfl
theorem nst_chain (o : _) (o' : _) (a : IE) (b : IE) (c : IE) : isStar (.chain o o' a b c) = false := rfl
theorem nst_isN (a : IE) : isStar (.isN a) = false := rfl
theorem nst_notN (a : IE) : isStar (.notN a) = false := rfl
theorem nst_not (a : IE) : isStar (.not a) = false := rfl
theorem nst_and (a : IE) (b : IE) : isStar (.and a b) = false := rfl
theorem nst_or (a : IE) (b : IE) : isStar (.or a b) = false := rfl
theorem nst_ife (a : IE) (b : IE) (c : IE) : isStar (.ife a b c) = false := rfl
theorem nst_sub (a : IE) (b : IE) : isStar (.sub a b) = false := rfl
theorem nst_slc (a : IE) (b : IE) (c : IE) : isStar (.slc a b c) = false := rfl
theorem nst_rev (a : IE) : isStar (.rev a) = false := rfl
theorem nst_call (f : Nat) (l : List IE) (ks : _) : isStar (.call f l ks) = false := rfl
theorem nst_call1 (f : Nat) (a : IE) : isStar (.call1 f a) = false := rfl
theorem nst_bi (bb : _) (l : List IE) : isStar (.bi bb l) = false := rfl
theorem nst_isi (a : IE) (ts : _) : isStar (.isi a ts) = false := rfl
theorem nst_isx (a : IE) (n : Nat) : isStar (.isx a n) = false := rfl
theorem nst_me (m : _) (a : IE) (l : List IE) : isStar (.me m a l) = false := rfl
theorem nst_pop (i : Nat) : isStar (.pop i) = false := rfl
theorem nst_popAt (i : Nat) (a : IE) : isStar (.popAt i a) = false := rfl
theorem nst_comp (w : _) (t : _) (k : _) (l : List IE) (l' : List IE) (b : Bool) (a : IE) : isStar (.comp w t k l l' b a) = false := rfl
theorem nst_bad  : isStar (.bad) = false := rfl
theorem beq_tf : ((true == false) : Bool) = false := rfl
theorem beq_ft : ((false == true) : Bool) = false := rfl
theorem beq_tt : ((true == true) : Bool) = true := rfl
theorem beq_ff : ((false == false) : Bool) = true := rfl
theorem isNon_int (i : Int) : isNon (.int i) = false := rfl
theorem isNon_str (i : PySem.Str) : isNon (.str i) = false := rfl
theorem isNon_lst (i : List D) : isNon (.lst i) = false := rfl
theorem isNon_tup (i : List D) : isNon (.tup i) = false := rfl
theorem isNon_exc (c : Nat) (i : List (PySem.Str × D)) : isNon (.exc c i) = false := rfl
theorem isNon_bl (i : Bool) : isNon (.bl i) = false := rfl
theorem isNon_non : isNon .non = true := rfl
theorem isOwn_exc (c : Nat) (i : List (PySem.Str × D)) : isOwn (.exc c i) = false := rfl
theorem ownsX_z (d : D) (env : Env) : ownsX (.ow d :: env) 0 = true := rfl
theorem ownsX_s (e : Ent) (env : Env) (n : Nat) : ownsX (e :: env) (n + 1) = ownsX env n := rfl
theorem ownsL_z (d : List D) (env : Env) : ownsL (.ow (.lst d) :: env) 0 = true := rfl
theorem ownsL_s (e : Ent) (env : Env) (n : Nat) : ownsL (e :: env) (n + 1) = ownsL env n := rfl
theorem lockOf_zo (d : D) (env : Env) : lockOf (.ow d :: env) 0 = true := rfl
theorem lockOf_zf (d : D) (env : Env) : lockOf (.fz d :: env) 0 = false := rfl
theorem lockOf_zn (env : Env) : lockOf (.no :: env) 0 = false := rfl
theorem lockOf_s (e : Ent) (env : Env) (n : Nat) : lockOf (e :: env) (n + 1) = lockOf env n := rfl
theorem lockOf_n (n : Nat) : lockOf [] n = false := by unfold lockOf; rw [getE_n]
section
variable (T : Tab) (C : Nat → Env → R (D × Env)) (lk : Lk)
theorem ev_c (d : D) (env : Env) : evE T C lk (.c d) env = .ok (d, env) := by rw [evE]
def kVar (i : Nat) (env : Env) : Ent → R (D × Env)
  | .fz d => .ok (d, env)
  | .ow _ => .ok (.own i, env)
  | .no => .no
theorem ev_v (i : Nat) (env : Env) : evE T C lk (.v i) env = kVar i env (getE env i) := by
  rw [evE]
  cases getE env i <;> rfl
theorem kVar_fz (i : Nat) (env : Env) (d : D) : kVar i env (.fz d) = .ok (d, env) := rfl
theorem kVar_ow (i : Nat) (env : Env) (d : D) : kVar i env (.ow d) = .ok (.own i, env) := rfl
theorem ev_g (x : Nat) (env : Env) : evE T C lk (.g x) env = (R.of (T.gl x)).bind fun d => .ok (d, env) := by rw [evE]
def kPure (o : Option D) (env : Env) : R (D × Env) := (R.of o).bind fun d => .ok (d, env)
theorem kPure_some (d : D) (env : Env) : kPure (some d) env = .ok (d, env) := rfl
def kBool (o : Option Bool) (env : Env) : R (D × Env) := (R.of o).bind fun d => .ok (.bl d, env)
theorem kBool_some (d : Bool) (env : Env) : kBool (some d) env = .ok (.bl d, env) := rfl
def kSeq (mk : List D → D) (p : List D × Env) : R (D × Env) := if p.1.any isOwn || !decide (p.1.length ≤ line) then .no else .ok (mk p.1, p.2)
theorem ev_tup (es : List IE) (env : Env) : evE T C lk (.tup es) env = (evEs T C lk es env).bind (kSeq .tup) := by rw [evE]; rfl
theorem ev_lst (es : List IE) (env : Env) : evE T C lk (.lst es) env = (evEs T C lk es env).bind (kSeq .lst) := by rw [evE]; rfl
theorem kSeq_ok (mk : List D → D) {ds : List D} (env : Env) (h : ds.any isOwn = false) (hl : ds.length ≤ 1000) : kSeq mk (ds, env) = .ok (mk ds, env) := by
  unfold kSeq
  rw [h, decide_eq_true (Nat.le_trans hl (by decide))]
  rfl
def kBin2 (o : BOp) (x : D) (q : D × Env) : R (D × Env) := kPure (bop o (res q.2 x) (res q.2 q.1)) q.2
def kBin (o : BOp) (b : IE) (p : D × Env) : R (D × Env) := (evE T C lk b p.2).bind (kBin2 o p.1)
theorem ev_bin (o : BOp) (a b : IE) (env : Env) : evE T C lk (.bin o a b) env = (evE T C lk a env).bind (kBin T C lk o b) := by rw [evE]; rfl
theorem kBin_eq (o : BOp) (b : IE) (x : D) (env : Env) : kBin T C lk o b (x, env) = (evE T C lk b env).bind (kBin2 o x) := rfl
theorem kBin2_eq (o : BOp) (x y : D) (env : Env) : kBin2 o x (y, env) = kPure (bop o (res env x) (res env y)) env := rfl
def kCmp2 (o : COp) (x : D) (q : D × Env) : R (D × Env) := kBool (cop o (res q.2 x) (res q.2 q.1)) q.2
def kCmp (o : COp) (b : IE) (p : D × Env) : R (D × Env) := (evE T C lk b p.2).bind (kCmp2 o p.1)
theorem ev_cmp (o : COp) (a b : IE) (env : Env) : evE T C lk (.cmp o a b) env = (evE T C lk a env).bind (kCmp T C lk o b) := by rw [evE]; rfl
theorem kCmp_eq (o : COp) (b : IE) (x : D) (env : Env) : kCmp T C lk o b (x, env) = (evE T C lk b env).bind (kCmp2 o x) := rfl
theorem kCmp2_eq (o : COp) (x y : D) (env : Env) : kCmp2 o x (y, env) = kBool (cop o (res env x) (res env y)) env := rfl
def kChain3 (o' : COp) (y : D) (c : IE) (env : Env) : Bool → R (D × Env)
  | true => (evE T C lk c env).bind (kCmp2 o' y)
  | false => .ok (.bl false, env)
def kChain2 (o o' : COp) (x : D) (c : IE) (q : D × Env) : R (D × Env) := (R.of (cop o (res q.2 x) (res q.2 q.1))).bind (kChain3 T C lk o' q.1 c q.2)
def kChain (o o' : COp) (b c : IE) (p : D × Env) : R (D × Env) := (evE T C lk b p.2).bind (kChain2 T C lk o o' p.1 c)
theorem ev_chain (o o' : COp) (a b c : IE) (env : Env) : evE T C lk (.chain o o' a b c) env = (evE T C lk a env).bind (kChain T C lk o o' b c) := by
  rw [evE]
  congr 1
  funext p
  unfold kChain
  congr 1
  funext q
  unfold kChain2
  congr 1
  funext d
  cases d <;> rfl
theorem kChain_eq (o o' : COp) (b c : IE) (x : D) (env : Env) : kChain T C lk o o' b c (x, env) = (evE T C lk b env).bind (kChain2 T C lk o o' x c) := rfl
theorem kChain2_eq (o o' : COp) (c : IE) (x y : D) (env : Env) : kChain2 T C lk o o' x c (y, env) = (R.of (cop o (res env x) (res env y))).bind (kChain3 T C lk o' y c env) := rfl
theorem kChain3_t (o' : COp) (y : D) (c : IE) (env : Env) : kChain3 T C lk o' y c env true = (evE T C lk c env).bind (kCmp2 o' y) := rfl
theorem kChain3_f (o' : COp) (y : D) (c : IE) (env : Env) : kChain3 T C lk o' y c env false = .ok (.bl false, env) := rfl
def kIsN (b : Bool) (p : D × Env) : R (D × Env) := if isOwn p.1 then .no else .ok (.bl (b == isNon p.1), p.2)
theorem ev_isN (a : IE) (env : Env) : evE T C lk (.isN a) env = (evE T C lk a env).bind (kIsN true) := by
  rw [evE]; congr 1; funext p; unfold kIsN; cases isNon p.1 <;> rfl
theorem ev_notN (a : IE) (env : Env) : evE T C lk (.notN a) env = (evE T C lk a env).bind (kIsN false) := by
  rw [evE]; congr 1; funext p; unfold kIsN; cases isNon p.1 <;> rfl
theorem kIsN_eq (b : Bool) {d : D} (env : Env) (h : isOwn d = false) : kIsN b (d, env) = .ok (.bl (b == isNon d), env) := by
  unfold kIsN; rw [h]; rfl
def kNot (p : D × Env) : R (D × Env) := (R.of (truth (res p.2 p.1))).bind fun b => .ok (.bl (!b), p.2)
theorem ev_not (a : IE) (env : Env) : evE T C lk (.not a) env = (evE T C lk a env).bind kNot := by rw [evE]; rfl
theorem kNot_eq (d : D) (env : Env) : kNot (d, env) = (R.of (truth (res env d))).bind fun b => .ok (.bl (!b), env) := rfl
def kAnd2 (b : IE) (d : D) (env : Env) : Bool → R (D × Env)
  | true => evE T C lk b env
  | false => .ok (d, env)
def kAnd (b : IE) (p : D × Env) : R (D × Env) := if isOwn p.1 then .no else (R.of (truth p.1)).bind (kAnd2 T C lk b p.1 p.2)
theorem ev_and (a b : IE) (env : Env) : evE T C lk (.and a b) env = (evE T C lk a env).bind (kAnd T C lk b) := by
  rw [evE]; congr 1; funext p; unfold kAnd; split
  · rfl
  · congr 1; funext k; cases k <;> rfl
theorem kAnd_bl (b : IE) (c : Bool) (env : Env) : kAnd T C lk b (.bl c, env) = kAnd2 T C lk b (.bl c) env c := rfl
theorem kAnd2_t (b : IE) (d : D) (env : Env) : kAnd2 T C lk b d env true = evE T C lk b env := rfl
theorem kAnd2_f (b : IE) (d : D) (env : Env) : kAnd2 T C lk b d env false = .ok (d, env) := rfl
def kOr2 (b : IE) (d : D) (env : Env) : Bool → R (D × Env)
  | false => evE T C lk b env
  | true => .ok (d, env)
def kOr (b : IE) (p : D × Env) : R (D × Env) := if isOwn p.1 then .no else (R.of (truth p.1)).bind (kOr2 T C lk b p.1 p.2)
theorem ev_or (a b : IE) (env : Env) : evE T C lk (.or a b) env = (evE T C lk a env).bind (kOr T C lk b) := by
  rw [evE]; congr 1; funext p; unfold kOr; split
  · rfl
  · congr 1; funext k; cases k <;> rfl
theorem kOr_bl (b : IE) (c : Bool) (env : Env) : kOr T C lk b (.bl c, env) = kOr2 T C lk b (.bl c) env c := rfl
theorem kOr_lst (b : IE) (c : List D) (env : Env) : kOr T C lk b (.lst c, env) = kOr2 T C lk b (.lst c) env (!c.isEmpty) := rfl
theorem kOr2_t (b : IE) (d : D) (env : Env) : kOr2 T C lk b d env true = .ok (d, env) := rfl
theorem kOr2_f (b : IE) (d : D) (env : Env) : kOr2 T C lk b d env false = evE T C lk b env := rfl
def kIfe2 (a b : IE) (env : Env) : Bool → R (D × Env)
  | true => evE T C lk a env
  | false => evE T C lk b env
def kIfe (a b : IE) (p : D × Env) : R (D × Env) := (R.of (truth (res p.2 p.1))).bind (kIfe2 T C lk a b p.2)
theorem ev_ife (t a b : IE) (env : Env) : evE T C lk (.ife t a b) env = (evE T C lk t env).bind (kIfe T C lk a b) := by
  rw [evE]; congr 1; funext p; unfold kIfe; congr 1; funext k; cases k <;> rfl
theorem kIfe_eq (a b : IE) (d : D) (env : Env) : kIfe T C lk a b (d, env) = (R.of (truth (res env d))).bind (kIfe2 T C lk a b env) := rfl
theorem kIfe2_t (a b : IE) (env : Env) : kIfe2 T C lk a b env true = evE T C lk a env := rfl
theorem kIfe2_f (a b : IE) (env : Env) : kIfe2 T C lk a b env false = evE T C lk b env := rfl
def kSub2 (x : D) (q : D × Env) : R (D × Env) := if isOwn q.1 then .no else kPure (subD (res q.2 x) q.1) q.2
def kSub (i : IE) (p : D × Env) : R (D × Env) := (evE T C lk i p.2).bind (kSub2 p.1)
theorem ev_sub (a i : IE) (env : Env) : evE T C lk (.sub a i) env = (evE T C lk a env).bind (kSub T C lk i) := by rw [evE]; rfl
theorem kSub_eq (i : IE) (x : D) (env : Env) : kSub T C lk i (x, env) = (evE T C lk i env).bind (kSub2 x) := rfl
theorem kSub2_int (x : D) (i : Int) (env : Env) : kSub2 x (.int i, env) = kPure (subD (res env x) (.int i)) env := rfl
def kSlc3 (x : D) (l : Option Int) (hi : IE) (r : D × Env) : R (D × Env) := (R.of (bndE hi r.1)).bind fun h => kPure (slcD (res r.2 x) l h) r.2
def kSlc2 (x : D) (lo hi : IE) (q : D × Env) : R (D × Env) := (R.of (bndE lo q.1)).bind fun l => (evE T C lk hi q.2).bind (kSlc3 x l hi)
def kSlc (lo hi : IE) (p : D × Env) : R (D × Env) := (evE T C lk lo p.2).bind (kSlc2 T C lk p.1 lo hi)
theorem ev_slc (a lo hi : IE) (env : Env) : evE T C lk (.slc a lo hi) env = (evE T C lk a env).bind (kSlc T C lk lo hi) := by rw [evE]; rfl
theorem kSlc_eq (lo hi : IE) (x : D) (env : Env) : kSlc T C lk lo hi (x, env) = (evE T C lk lo env).bind (kSlc2 T C lk x lo hi) := rfl
theorem kSlc2_eq (lo hi : IE) (x y : D) (env : Env) : kSlc2 T C lk x lo hi (y, env) = (R.of (bndE lo y)).bind fun l => (evE T C lk hi env).bind (kSlc3 x l hi) := rfl
theorem kSlc3_eq (x : D) (l : Option Int) (hi : IE) (y : D) (env : Env) : kSlc3 x l hi (y, env) = (R.of (bndE hi y)).bind fun h => kPure (slcD (res env x) l h) env := rfl
def kCall (f : Nat) (p : List D × Env) : R (D × Env) := (R.of (T.fn f)).bind fun F => (R.of (arr F.np p.1 [] [])).bind fun ds => callD C f ds p.2
theorem ev_calln (f : Nat) (es : List IE) (env : Env) : evE T C lk (.call f es []) env = (evEs T C lk es env).bind (kCall T C f) := by
  rw [evE]
  congr 1
  funext p
  unfold kCall
  congr 1
  funext F
  simp only [List.length_nil, Nat.sub_zero, List.take_length, List.drop_length, mapM_ents]
  rfl
theorem kCall_1 {f : Nat} {F : IFun} (hf : T.fn f = some F) (hn : F.np = 1) (a : D) (env : Env) : kCall T C f ([a], env) = callD C f [a] env := by
  unfold kCall; rw [hf, R.of_some, R.bind_ok, hn]; rfl
theorem kCall_0 {f : Nat} {F : IFun} (hf : T.fn f = some F) (hn : F.np = 0) (env : Env) : kCall T C f ([], env) = callD C f [] env := by
  unfold kCall; rw [hf, R.of_some, R.bind_ok, hn]; rfl
theorem kCall_2 {f : Nat} {F : IFun} (hf : T.fn f = some F) (hn : F.np = 2) (a b : D) (env : Env) : kCall T C f ([a, b], env) = callD C f [a, b] env := by
  unfold kCall; rw [hf, R.of_some, R.bind_ok, hn]; rfl
theorem kCall_3 {f : Nat} {F : IFun} (hf : T.fn f = some F) (hn : F.np = 3) (a b c : D) (env : Env) : kCall T C f ([a, b, c], env) = callD C f [a, b, c] env := by
  unfold kCall; rw [hf, R.of_some, R.bind_ok, hn]; rfl
def kBi (b : BI) (p : List D × Env) : R (D × Env) := kPure (biD b (p.1.map (res p.2))) p.2
theorem ev_bi (b : BI) (es : List IE) (env : Env) : evE T C lk (.bi b es) env = (evEs T C lk es env).bind (kBi b) := by rw [evE]; rfl
theorem kBi_1 (b : BI) (x : D) (env : Env) : kBi b ([x], env) = kPure (biD b [res env x]) env := rfl
theorem kBi_2 (b : BI) (x y : D) (env : Env) : kBi b ([x, y], env) = kPure (biD b [res env x, res env y]) env := rfl
def kIsi (ts : List Ty) (p : D × Env) : R (D × Env) := kBool (tyAny (res p.2 p.1) ts) p.2
theorem ev_isi (a : IE) (ts : List Ty) (env : Env) : evE T C lk (.isi a ts) env = (evE T C lk a env).bind (kIsi ts) := by rw [evE]; rfl
theorem kIsi_eq (ts : List Ty) (d : D) (env : Env) : kIsi ts (d, env) = kBool (tyAny (res env d) ts) env := rfl
def kIsx (c : Nat) : D × Env → R (D × Env)
  | (.exc c' _, env) => kBool (T.sub c' c) env
  | _ => .no
theorem ev_isx (a : IE) (c : Nat) (env : Env) : evE T C lk (.isx a c) env = (evE T C lk a env).bind (kIsx T c) := by
  rw [evE]; congr 1; funext p; obtain ⟨d, e⟩ := p; cases d <;> rfl
theorem kIsx_eq (c c' : Nat) (fs : List (PySem.Str × D)) (env : Env) : kIsx T c (.exc c' fs, env) = kBool (T.sub c' c) env := rfl
def kMe2 (m : ME) (x : D) (q : List D × Env) : R (D × Env) := kPure (meD m (res q.2 x) (q.1.map (res q.2))) q.2
def kMe (m : ME) (es : List IE) (p : D × Env) : R (D × Env) := if !meTy m (res p.2 p.1) then .no else (evEs T C lk es p.2).bind (kMe2 m p.1)
theorem ev_me (m : ME) (o : IE) (es : List IE) (env : Env) : evE T C lk (.me m o es) env = (evE T C lk o env).bind (kMe T C lk m es) := by rw [evE]; rfl
theorem kMe_eq {m : ME} (es : List IE) {d : D} (env : Env) (h : meTy m (res env d) = true) : kMe T C lk m es (d, env) = (evEs T C lk es env).bind (kMe2 m d) := by
  unfold kMe; simp only [h, Bool.not_true, Bool.false_eq_true, if_false]
theorem kMe2_1 (m : ME) (x y : D) (env : Env) : kMe2 m x ([y], env) = kPure (meD m (res env x) [res env y]) env := rfl
theorem es_n (env : Env) : evEs T C lk [] env = .ok ([], env) := by rw [evEs]
def kEs (es : List IE) (p : D × Env) : R (List D × Env) := (evEs T C lk es p.2).bind fun q => .ok (p.1 :: q.1, q.2)
theorem es_c {e : IE} (es : List IE) (env : Env) (h : isStar e = false) : evEs T C lk (e :: es) env = (evE T C lk e env).bind (kEs T C lk es) := by
  cases e <;> first | rfl | cases h
theorem kEs_eq (es : List IE) (d : D) (env : Env) : kEs T C lk es (d, env) = (evEs T C lk es env).bind fun q => .ok (d :: q.1, q.2) := rfl
/-! ### statements -/
def kSto (i : Nat) (e : Ent) (env : Env) : R (Fl × Env) := (R.of (setE lk i e env)).bind fun env => .ok (.next, env)
theorem kSto_ok {i : Nat} (e : Ent) {env : Env} (h : lk i = false) (hi : i < env.length) : kSto lk i e env = .ok (.next, env.set i e) := by
  unfold kSto; rw [setE_ok h hi]; rfl
def kAsg (i : Nat) (p : D × Env) : R (Fl × Env) := if isOwn p.1 then .no else kSto lk i (.fz p.1) p.2
theorem st_asg (i : Nat) (e : IE) (env : Env) : evS T C lk (.asg i e) env = (evE T C lk e env).bind (kAsg lk i) := by rw [evS]; rfl
theorem kAsg_eq (i : Nat) {d : D} (env : Env) (h : isOwn d = false) : kAsg lk i (d, env) = kSto lk i (.fz d) env := by unfold kAsg; rw [h]; rfl
def kOwn (i : Nat) (p : D × Env) : R (Fl × Env) := if isObj p.1 then kSto lk i (.ow p.1) p.2 else .no
theorem st_own (i : Nat) {e : IE} (env : Env) (h : newE T e = true) : evS T C lk (.own i e) env = (evE T C lk e env).bind (kOwn lk i) := by rw [evS, if_pos h]; rfl
theorem kOwn_lst (i : Nat) (ds : List D) (env : Env) : kOwn lk i (.lst ds, env) = kSto lk i (.ow (.lst ds)) env := rfl
def kRet (p : D × Env) : R (Fl × Env) := if isOwn p.1 then .no else .ok (.ret p.1, p.2)
theorem st_ret (e : IE) (env : Env) : evS T C lk (.ret e) env = (evE T C lk e env).bind kRet := by rw [evS]; rfl
theorem kRet_eq {d : D} (env : Env) (h : isOwn d = false) : kRet (d, env) = .ok (.ret d, env) := by unfold kRet; rw [h]; rfl
def kRetN (p : D × Env) : R (Fl × Env) := if isObj p.1 then .ok (.ret p.1, p.2) else .no
theorem st_retN {e : IE} (env : Env) (h : newE T e = true) : evS T C lk (.retN e) env = (evE T C lk e env).bind kRetN := by rw [evS, if_pos h]; rfl
theorem kRetN_eq {d : D} (env : Env) (h : isObj d = true) : kRetN (d, env) = .ok (.ret d, env) := by unfold kRetN; rw [h]; rfl
def kIf2 (a b : List IS) (env : Env) : Bool → R (Fl × Env)
  | true => evSs T C lk a env
  | false => evSs T C lk b env
def kIf (a b : List IS) (p : D × Env) : R (Fl × Env) := (R.of (truth (res p.2 p.1))).bind (kIf2 T C lk a b p.2)
theorem st_if (t : IE) (a b : List IS) (env : Env) : evS T C lk (.ifs t a b) env = (evE T C lk t env).bind (kIf T C lk a b) := by
  rw [evS]; congr 1; funext p; unfold kIf; congr 1; funext k; cases k <;> rfl
theorem kIf_eq (a b : List IS) (d : D) (env : Env) : kIf T C lk a b (d, env) = (R.of (truth (res env d))).bind (kIf2 T C lk a b env) := rfl
theorem kIf2_t (a b : List IS) (env : Env) : kIf2 T C lk a b env true = evSs T C lk a env := rfl
theorem kIf2_f (a b : List IS) (env : Env) : kIf2 T C lk a b env false = evSs T C lk b env := rfl
def kFor (tg : Tg) (k : IK) (body : List IS) (p : List D × Env) : R (Fl × Env) := if p.1.any isOwn then .no else (R.of (itD k p.1)).bind fun xs => loopS (fun x env1 => (R.of (tgE lk tg x env1)).bind fun env2 => evSs T C lk body env2) xs p.2
theorem st_for (tg : Tg) (k : IK) (es : List IE) (body : List IS) (env : Env) : evS T C lk (.for_ tg k es body) env = (evEs T C lk es env).bind (kFor T C lk tg k body) := by rw [evS]; rfl
theorem kFor_eq (tg : Tg) {k : IK} (body : List IS) {ds xs : List D} (env : Env) (h : ds.any isOwn = false) (hx : itD k ds = some xs) : kFor T C lk tg k body (ds, env) = loopS (fun x env1 => (R.of (tgE lk tg x env1)).bind fun env2 => evSs T C lk body env2) xs env := by
  unfold kFor; simp only [h, hx]; rfl
def kUnp (is : List Nat) (p : D × Env) : R (Fl × Env) := (R.of (tgE lk (.t is) p.1 p.2)).bind fun env => .ok (.next, env)
theorem st_unp (is : List Nat) (e : IE) (env : Env) : evS T C lk (.unp is e) env = (evE T C lk e env).bind (kUnp lk is) := by rw [evS]; rfl
def kPar (is : List Nat) (os : List Bool) (es : List IE) (p : List D × Env) : R (Fl × Env) := (R.of (parE T lk is os es p.1 p.2)).bind fun env => .ok (.next, env)
theorem st_par {is : List Nat} (os : List Bool) {es : List IE} (env : Env) (h : (es.any isStar || !decide (is.Nodup)) = false) : evS T C lk (.par is os es) env = (evEs T C lk es env).bind (kPar T lk is os es) := by
  rw [evS, h]; rfl
def kExpr (p : D × Env) : R (Fl × Env) := .ok (.next, p.2)
theorem st_expr (e : IE) (env : Env) : evS T C lk (.expr e) env = (evE T C lk e env).bind kExpr := by rw [evS]; rfl
theorem kExpr_eq (d : D) (env : Env) : kExpr (d, env) = .ok (.next, env) := rfl
theorem st_rais (c : Nat) (env : Env) : evS T C lk (.rais c []) env = .ex c [] env := by rw [evS]
theorem st_pass (env : Env) : evS T C lk .pass env = .ok (.next, env) := by rw [evS]
def kTry (cs : List Nat) (i j : Nat) : R (Fl × Env) → R (Fl × Env)
  | .ok p => .ok p
  | .no => .no
  | .ex c fs e => (R.of (subAny T c cs)).bind fun b => if b then (R.of (setE lk j (.fz (.exc c fs)) e)).bind fun e1 => (R.of (setE lk i .no e1)).bind fun e2 => .ok (.next, e2) else .ex c fs e
theorem st_try (body : List IS) (cs : List Nat) (i j : Nat) (env : Env) : evS T C lk (.tryK body cs i j) env = kTry T lk cs i j (evSs T C lk body env) := by
  rw [evS]; cases evSs T C lk body env <;> rfl
theorem kTry_ok (cs : List Nat) (i j : Nat) (p : Fl × Env) : kTry T lk cs i j (.ok p) = .ok p := rfl
theorem kTry_ex {cs : List Nat} {i j c : Nat} {fs : List (PySem.Str × D)} {e : Env} (h : subAny T c cs = some true) (hj : lk j = false) (hi : lk i = false) (hjl : j < e.length) (hil : i < e.length) : kTry T lk cs i j (.ex c fs e) = .ok (.next, (e.set j (.fz (.exc c fs))).set i .no) := by
  unfold kTry
  simp only [h, R.of_some, R.bind_ok, if_true, setE_ok hj hjl]
  rw [setE_ok hi (by simpa using hil)]
  rfl
def kSet3 (i : Nat) (d : D) : D × Env → R (Fl × Env)
  | (y, env) => if isOwn d then .no else match getE env i, y with
    | .ow (.lst xs), .int j => (R.of (L2.ixN xs.length j)).bind fun n => .ok (.next, env.set i (.ow (.lst (xs.set n d))))
    | .ow (.dct kvs), k => if isKey k && decide (kvs.length < line) then .ok (.next, env.set i (.ow (.dct (keySet k d kvs)))) else .no
    | _, _ => .no
def kSet (i : Nat) (k : IE) (p : D × Env) : R (Fl × Env) := if !ownsX p.2 i then .no else (evE T C lk k p.2).bind (kSet3 i p.1)
theorem st_set (i : Nat) (k e : IE) (env : Env) : evS T C lk (.set i k e) env = (evE T C lk e env).bind (kSet T C lk i k) := by rw [evS]; rfl
theorem kSet_eq {i : Nat} (k : IE) (d : D) {env : Env} (h : ownsX env i = true) : kSet T C lk i k (d, env) = (evE T C lk k env).bind (kSet3 i d) := by
  unfold kSet; simp only [h, Bool.not_true, Bool.false_eq_true, if_false]
theorem kSet3_lst {i : Nat} {d : D} {j : Int} {env : Env} {xs : List D} (h : isOwn d = false) (hg : getE env i = .ow (.lst xs)) : kSet3 i d (.int j, env) = (R.of (L2.ixN xs.length j)).bind fun n => .ok (.next, env.set i (.ow (.lst (xs.set n d)))) := by
  unfold kSet3; simp only [h, hg, Bool.false_eq_true, if_false]
def kApp (i : Nat) (p : D × Env) : R (Fl × Env) := if isOwn p.1 then .no else match getE p.2 i with
    | .ow (.lst xs) => if xs.length < line then .ok (.next, p.2.set i (.ow (.lst (xs ++ [p.1])))) else .no
    | _ => .no
theorem st_app {i : Nat} (e : IE) {env : Env} (h : ownsL env i = true) : evS T C lk (.app i e) env = (evE T C lk e env).bind (kApp i) := by
  rw [evS]; simp only [h, Bool.not_true, Bool.false_eq_true, if_false]; rfl
theorem kApp_eq {i : Nat} {d : D} {env : Env} {xs : List D} (h : isOwn d = false) (hg : getE env i = .ow (.lst xs)) (hl : xs.length < line) : kApp i (d, env) = .ok (.next, env.set i (.ow (.lst (xs ++ [d])))) := by
  unfold kApp; simp only [h, hg, Bool.false_eq_true, if_false, if_pos hl]
def kFz (i : Nat) (s : IS) (env : Env) : Ent → R (Fl × Env)
  | .ow d => if lk i then .no else evS T C lk s (env.set i (.fz d))
  | _ => evS T C lk s env
theorem st_fz (i : Nat) (s : IS) (env : Env) : evS T C lk (.fz i s) env = kFz T C lk i s env (getE env i) := by
  rw [evS]; cases getE env i <;> rfl
theorem kFz_ow {i : Nat} (s : IS) (env : Env) (d : D) (h : lk i = false) : kFz T C lk i s env (.ow d) = evS T C lk s (env.set i (.fz d)) := by
  unfold kFz; simp only [h, Bool.false_eq_true, if_false]
theorem kFz_fz (i : Nat) (s : IS) (env : Env) (d : D) : kFz T C lk i s env (.fz d) = evS T C lk s env := rfl
theorem kFz_no (i : Nat) (s : IS) (env : Env) : kFz T C lk i s env .no = evS T C lk s env := rfl
theorem kUnp_2 {i j : Nat} {a b : D} {env : Env} (ha : isOwn a = false) (hb : isOwn b = false) (hi : lk i = false) (hj : lk j = false) (il : i < env.length) (jl : j < env.length) : kUnp lk [i, j] (.tup [a, b], env) = .ok (.next, (env.set i (.fz a)).set j (.fz b)) := by
  unfold kUnp
  show (R.of (setsE lk [i, j] [a, b] env)).bind _ = _
  simp only [setsE, ha, hb, Bool.false_eq_true, if_false, setE_ok hi il, Option.bind_some]
  rw [setE_ok hj (by simpa using jl)]
  rfl
theorem kUnp_3 {i j m : Nat} {a b c : D} {env : Env} (ha : isOwn a = false) (hb : isOwn b = false) (hc : isOwn c = false) (hi : lk i = false) (hj : lk j = false) (hm : lk m = false) (il : i < env.length) (jl : j < env.length) (ml : m < env.length) : kUnp lk [i, j, m] (.tup [a, b, c], env) = .ok (.next, ((env.set i (.fz a)).set j (.fz b)).set m (.fz c)) := by
  unfold kUnp
  show (R.of (setsE lk [i, j, m] [a, b, c] env)).bind _ = _
  simp only [setsE, ha, hb, hc, Bool.false_eq_true, if_false, setE_ok hi il, Option.bind_some]
  rw [setE_ok hj (by simpa using jl), Option.bind_some, setE_ok hm (by simpa using ml)]
  rfl
end
end IV

set_option linter.all false
set_option Elab.async false
set_option maxRecDepth 100000
/-! B90: trees, printed by gen.py. -/
namespace K90
open IV
/-- is_kind -/
def b0 : List IS := [.ret (.and (.isi (.v 0) [.str]) (.and (.cmp .ne (.v 0) (.c (.str ""))) (.bi .all [(.comp [1] (.n 1) .seq [(.v 0)] [] true (.cmp .isin (.v 1) (.g 0)))])))]
def f0 : IFun := { np := 1, fresh := false, ns := 2, body := b0, kws := [] }
/-- number_in -/
def b1 : List IS := [.ifs (.or (.cmp .eq (.v 0) (.c (.str ""))) (.not (.bi .all [(.comp [1] (.n 1) .seq [(.v 0)] [] true (.cmp .isin (.v 1) (.g 1)))]))) [.ret (.c .non)] [], .ret (.ife (.and (.cmp .eq (.sub (.v 0) (.c (.int 0))) (.c (.str "0"))) (.cmp .ne (.v 0) (.c (.str "0")))) (.c .non) (.bi .int [(.v 0)]))]
def f1 : IFun := { np := 1, fresh := false, ns := 2, body := b1, kws := [] }
/-- crowd_text -/
def b2 : List IS := [.ret (.ife (.cmp .gt (.bi .len [(.v 0)]) (.c (.int 0))) (.me .join (.g 3) [(.comp [1, 2] (.t [1, 2]) .seq [(.v 0)] [] true (.bin .add (.bin .add (.v 1) (.g 4)) (.bi .str [(.v 2)])))]) (.g 2))]
def f2 : IFun := { np := 1, fresh := false, ns := 3, body := b2, kws := [(0, [0])] }
/-- pair_in -/
def b3 : List IS := [.unp [2, 3, 4] (.me .partition (.v 0) [(.g 4)]), .asg 1 (.call 1 [(.v 4)] []), .ret (.ife (.or (.cmp .eq (.v 3) (.c (.str ""))) (.or (.not (.call 0 [(.v 2)] [])) (.or (.isN (.v 1)) (.cmp .eq (.v 1) (.c (.int 0)))))) (.c .non) (.tup [(.v 2), (.v 1)]))]
def f3 : IFun := { np := 1, fresh := false, ns := 5, body := b3, kws := [] }
/-- crowd_in -/
def b4 : List IS := [.ifs (.cmp .eq (.v 0) (.g 2)) [.ret (.tup [])] [], .asg 1 (.comp [3] (.n 3) .seq [(.me .split (.v 0) [(.g 3)])] [] true (.call 3 [(.v 3)] [])), .ifs (.cmp .isin (.c .non) (.v 1)) [.rais 0 []] [], .asg 2 (.comp [4, 5] (.t [4, 5]) .seq [(.v 1)] [] true (.v 4)), .ifs (.cmp .ne (.v 2) (.bi .sset [(.v 2)])) [.rais 0 []] [], .ret (.bi .tuple [(.v 1)])]
def f4 : IFun := { np := 1, fresh := false, ns := 6, body := b4, kws := [(0, [0])] }
/-- _law_box -/
def b5 : List IS := [.asg 2 (.ife (.cmp .lt (.v 1) (.bi .len [(.v 0)])) (.sub (.v 0) (.v 1)) (.c (.int 0))), .retN (.lst [(.bin .mul (.bi .abs [(.v 2)]) (.bi .int [(.cmp .ge (.bi .abs [(.v 2)]) (.bin .pow (.c (.int 10)) (.c (.int 18))))])), (.bin .add (.bin .add (.bin .mod (.bi .int [(.v 2)]) (.c (.int 2305843009213693951))) (.bin .mul (.c (.int 39373)) (.v 1))) (.c (.int 618090))), (.c (.int 0))])]
def f5 : IFun := { np := 2, fresh := true, ns := 3, body := b5, kws := [] }
/-- _law_take -/
def b6 : List IS := [.ifs (.cmp .gt (.sub (.v 0) (.c (.int 0))) (.c (.int 0))) [.asg 5 (.bin .mod (.bi .int [(.sub (.v 0) (.c (.int 0)))]) (.v 1)), .set 0 (.c (.int 0)) (.bin .fdiv (.sub (.v 0) (.c (.int 0))) (.v 1)), .ret (.v 5)] [], .set 0 (.c (.int 2)) (.bin .add (.sub (.v 0) (.c (.int 2))) (.c (.int 1))), .asg 2 (.bin .mod (.bi .int [(.bin .mul (.bin .add (.sub (.v 0) (.c (.int 1))) (.bin .mul (.c (.int 48271)) (.sub (.v 0) (.c (.int 2))))) (.bin .add (.c (.int 39373)) (.sub (.v 0) (.c (.int 2)))))]) (.c (.int 2147483647))), .asg 3 (.bin .add (.bin .mod (.bi .int [(.v 2)]) (.c (.int 40009))) (.c (.int 7))), .asg 4 (.bin .mod (.bi .int [(.bin .mul (.bin .add (.bin .add (.v 2) (.sub (.v 0) (.c (.int 2)))) (.bin .fdiv (.sub (.v 0) (.c (.int 1))) (.c (.int 1000003)))) (.v 3))]) (.c (.int 2147483629))), .ret (.bin .mod (.bi .int [(.bin .fdiv (.bin .mod (.bi .int [(.bin .add (.bin .mul (.v 4) (.c (.int 48271))) (.v 2))]) (.c (.int 2147483587))) (.c (.int 64)))]) (.v 1))]
def f6 : IFun := { np := 2, fresh := false, ns := 6, body := b6, kws := [] }
/-- _law_cells -/
def b7 : List IS := [.own 2 (.or (.bi .list [(.slc (.v 0) (.c .non) (.v 1))]) (.lst [(.c (.int 0))])), .for_ (.t [3, 4]) .enum [(.slc (.v 0) (.v 1) (.c (.int 63)))] [.asg 5 (.bin .mod (.bi .int [(.v 3)]) (.v 1)), .set 2 (.v 5) (.bin .add (.sub (.v 2) (.v 5)) (.bin .mul (.v 4) (.bin .add (.v 3) (.c (.int 2)))))], .fz 2 (.ret (.v 2))]
def f7 : IFun := { np := 2, fresh := false, ns := 6, body := b7, kws := [] }
/-- _law_of -/
def b8 : List IS := [.ret (.sub (.v 1) (.call 6 [(.v 0), (.bi .len [(.v 1)])] []))]
def f8 : IFun := { np := 2, fresh := false, ns := 2, body := b8, kws := [] }
/-- _law_lists -/
def b9 : List IS := [.ret (.ife (.isi (.v 0) [.list, .tuple]) (.comp [1] (.n 1) .seq [(.v 0)] [] true (.call 9 [(.v 1)] [])) (.v 0))]
def f9 : IFun := { np := 1, fresh := false, ns := 2, body := b9, kws := [] }
/-- _law_same -/
def b10 : List IS := [.ifs (.isi (.v 1) [.list, .tuple]) [.ifs (.or (.cmp .ne (.isi (.v 0) [.list]) (.isi (.v 1) [.list])) (.cmp .ne (.isi (.v 0) [.tuple]) (.isi (.v 1) [.tuple]))) [.ret (.c (.bl false))] [], .ret (.and (.cmp .eq (.bi .len [(.v 0)]) (.bi .len [(.v 1)])) (.bi .all [(.comp [2, 3] (.t [2, 3]) .zip [(.v 0), (.v 1)] [] true (.call 10 [(.v 2), (.v 3)] []))]))] [], .ifs (.or (.isN (.v 1)) (.isi (.v 1) [.bool, .str])) [.ret (.and (.cmp .eq (.v 0) (.v 1)) (.and (.cmp .eq (.isi (.v 0) [.bool]) (.isi (.v 1) [.bool])) (.cmp .eq (.isN (.v 0)) (.isN (.v 1)))))] [], .ret (.and (.isi (.v 0) [.int]) (.and (.not (.isi (.v 0) [.bool])) (.cmp .eq (.v 0) (.v 1))))]
def f10 : IFun := { np := 2, fresh := false, ns := 4, body := b10, kws := [] }
/-- _law_lot -/
def b11 : List IS := [.asg 3 (.lst []), .for_ (.n 4) .seq [(.bi .sorted [(.v 1)])] [.asg 5 (.bin .mul (.call 6 [(.v 0), (.bin .add (.v 2) (.c (.int 1)))] []) (.bi .int [(.cmp .gt (.call 6 [(.v 0), (.c (.int 3))] []) (.c (.int 0)))])), .asg 3 (.bin .add (.v 3) (.bin .mul (.lst [(.tup [(.v 4), (.v 5)])]) (.bi .int [(.cmp .gt (.v 5) (.c (.int 0)))])))], .ret (.bi .tuple [(.v 3)])]
def f11 : IFun := { np := 3, fresh := false, ns := 6, body := b11, kws := [] }
/-- _law_heard -/
def b12 : List IS := [.par [2, 3] [false, false] [(.c .non), (.c .non)], .tryK [.asg 3 (.call 4 [(.v 0)] [0])] [0] 1 2, .ret (.ife (.isN (.v 2)) (.v 3) (.ife (.isx (.v 2) 1) (.c (.str "bad")) (.c .non)))]
def f12 : IFun := { np := 1, fresh := false, ns := 4, body := b12, kws := [] }
/-- _law_by_hand_right -/
def b13 : List IS := [.asg 0 (.bin .pow (.c (.int 10)) (.c (.int 40))), .asg 1 (.lst [(.lst [(.c (.str "a")), (.c (.int 3))]), (.lst [(.c (.str "b")), (.v 0)])]), .asg 2 (.lst [(.call 2 [(.tup [(.tup [(.c (.str "a")), (.c (.int 3))]), (.tup [(.c (.str "b")), (.bin .pow (.c (.int 10)) (.c (.int 3)))])])] []), (.call 2 [(.v 1)] [0]), (.call 2 [(.tup [])] [])]), .asg 2 (.bin .add (.v 2) (.lst [(.call 2 [(.tup [(.tup [(.c (.str "kind")), (.c (.int 1))])])] []), (.v 1)])), .asg 3 (.lst [(.c (.str "a 3, b 1000")), (.bin .add (.c (.str "a 3, b 1")) (.bin .mul (.c (.str "0")) (.c (.int 40)))), (.c (.str "-")), (.c (.str "kind 1")), (.lst [(.lst [(.c (.str "a")), (.c (.int 3))]), (.lst [(.c (.str "b")), (.v 0)])])]), .asg 4 (.lst [(.c (.str "a 3, b 1000")), (.c (.str "-")), (.c (.str "row 10, zzzzzzzz 9")), (.bin .add (.c (.str "a 1")) (.bin .mul (.c (.str "0")) (.c (.int 40)))), (.c (.str "abcdefghij 3"))]), .asg 2 (.bin .add (.v 2) (.comp [6] (.n 6) .seq [(.v 4)] [] true (.call 12 [(.v 6)] []))), .asg 3 (.bin .add (.v 3) (.lst [(.tup [(.tup [(.c (.str "a")), (.c (.int 3))]), (.tup [(.c (.str "b")), (.c (.int 1000))])]), (.tup []), (.tup [(.tup [(.c (.str "row")), (.c (.int 10))]), (.tup [(.c (.str "zzzzzzzz")), (.c (.int 9))])]), (.tup [(.tup [(.c (.str "a")), (.v 0)])])])), .asg 3 (.bin .add (.v 3) (.lst [(.tup [(.tup [(.c (.str "abcdefghij")), (.c (.int 3))])])])), .asg 5 (.lst [(.c (.str "")), (.c (.str "a")), (.c (.str "a 0")), (.c (.str "a -1")), (.c (.str "a 01")), (.c (.str "a 00")), (.c (.str "a  1")), (.c (.str "a 1,b 2")), (.c (.str "a 1, b")), (.c (.str "a 1, "))]), .asg 5 (.bin .add (.v 5) (.lst [(.c (.str ", a 1")), (.c (.str "b 1, a 2")), (.c (.str "a 1, a 2")), (.c (.str "A 1")), (.c (.str "a 1 "))])), .asg 5 (.bin .add (.v 5) (.lst [(.c (.str " a 1")), (.c (.str "a1 1")), (.c (.str "- 1")), (.c (.str "-, a 1")), (.c (.str "a 1, -")), (.c (.str "a 1_0")), (.c (.str "a +1")), (.c (.str "a 1\n")), (.c (.str "a 1;b 2"))])), .asg 5 (.bin .add (.v 5) (.lst [(.c (.str "a 1 b 2")), (.c (.str "a 1,  b 2")), (.c (.str "1 a"))])), .ret (.call 10 [(.bin .add (.v 2) (.comp [6] (.n 6) .seq [(.v 5)] [] true (.call 12 [(.v 6)] []))), (.bin .add (.v 3) (.bin .mul (.lst [(.c (.str "bad"))]) (.bi .len [(.v 5)])))] [])]
def f13 : IFun := { np := 0, fresh := false, ns := 7, body := b13, kws := [] }
/-- _law_told -/
def b14 : List IS := [.ifs (.cmp .eq (.v 0) (.c (.str "-"))) [.ret (.tup [])] [], .own 1 (.lst []), .for_ (.n 2) .seq [(.me .split (.v 0) [(.c (.str ", "))])] [.asg 5 (.me .split (.v 2) [(.c (.str " "))]), .ifs (.or (.cmp .ne (.bi .len [(.v 5)]) (.c (.int 2))) (.or (.cmp .eq (.sub (.v 5) (.c (.int 0))) (.c (.str ""))) (.or (.cmp .eq (.sub (.v 5) (.c (.int 1))) (.c (.str ""))) (.cmp .eq (.sub (.sub (.v 5) (.c (.int 1))) (.c (.int 0))) (.c (.str "0")))))) [.ret (.c (.str "bad"))] [], .asg 6 (.comp [7] (.n 7) .seq [(.sub (.v 5) (.c (.int 0)))] [(.not (.chain .le .le (.c (.str "a")) (.v 7) (.c (.str "z"))))] true (.v 7)), .asg 6 (.bin .add (.v 6) (.comp [7] (.n 7) .seq [(.sub (.v 5) (.c (.int 1)))] [(.cmp .notin (.v 7) (.c (.str "0123456789")))] true (.v 7))), .ifs (.cmp .ne (.v 6) (.lst [])) [.ret (.c (.str "bad"))] [], .app 1 (.tup [(.sub (.v 5) (.c (.int 0))), (.bi .int [(.sub (.v 5) (.c (.int 1)))])])], .fz 1 (.asg 3 (.comp [7] (.n 7) .seq [(.v 1)] [] true (.sub (.v 7) (.c (.int 0))))), .asg 4 (.comp [8] (.n 8) .rng [(.c (.int 1)), (.bi .len [(.v 1)])] [(.cmp .ge (.sub (.v 3) (.bin .sub (.v 8) (.c (.int 1)))) (.sub (.v 3) (.v 8)))] true (.v 8)), .ret (.ife (.cmp .eq (.v 4) (.lst [])) (.bi .tuple [(.v 1)]) (.c (.str "bad")))]
def f14 : IFun := { np := 1, fresh := false, ns := 9, body := b14, kws := [] }
/-- _law_right -/
def b15 : List IS := [.ifs (.not (.call 13 [] [])) [.ret (.c (.bl false))] [], .for_ (.n 1) .rng [(.c (.int 12))] [.asg 2 (.slc (.lst [(.c (.str "a")), (.c (.str "ab")), (.c (.str "b")), (.c (.str "c")), (.c (.str "host")), (.c (.str "z"))]) (.c .non) (.bin .add (.c (.int 1)) (.call 6 [(.v 0), (.c (.int 6))] []))), .asg 3 (.call 11 [(.v 0), (.v 2), (.call 8 [(.v 0), (.lst [(.c (.int 3)), (.c (.int 40)), (.bin .pow (.c (.int 10)) (.c (.int 30)))])] [])] []), .asg 4 (.ife (.cmp .ne (.v 3) (.tup [])) (.me .join (.c (.str ", ")) [(.comp [8, 9] (.t [8, 9]) .seq [(.v 3)] [] true (.bin .add (.bin .add (.v 8) (.c (.str " "))) (.bi .str [(.v 9)])))]) (.c (.str "-"))), .ifs (.not (.call 10 [(.lst [(.call 2 [(.call 9 [(.v 3)] [])] []), (.call 12 [(.v 4)] [])]), (.lst [(.v 4), (.v 3)])] [])) [.ret (.c (.bl false))] [], .par [6, 7] [false, false] [(.call 6 [(.v 0), (.bin .add (.bi .len [(.v 4)]) (.c (.int 1)))] []), (.call 8 [(.v 0), (.lst [(.c (.str "a")), (.c (.str " ")), (.c (.str ", ")), (.c (.str "0")), (.c (.str "1")), (.c (.str "-")), (.c (.str "")), (.c (.str "b 1, "))])] [])], .asg 5 (.bin .add (.bin .add (.slc (.v 4) (.c .non) (.v 6)) (.v 7)) (.slc (.v 4) (.bin .add (.v 6) (.call 6 [(.v 0), (.c (.int 2))] [])) (.c .non))), .ifs (.not (.call 10 [(.call 12 [(.v 5)] []), (.call 14 [(.v 5)] [])] [])) [.ret (.c (.bl false))] []], .ret (.c (.bl true))]
def f15 : IFun := { np := 1, fresh := false, ns := 10, body := b15, kws := [] }
/-- law -/
def b16 : List IS := [.asg 1 (.call 7 [(.v 0), (.c (.int 3))] []), .ret (.bi .all [(.comp [2] (.n 2) .rng [(.bi .len [(.v 1)])] [] true (.call1 15 (.call 5 [(.v 1), (.v 2)] [])))])]
def f16 : IFun := { np := 1, fresh := false, ns := 3, body := b16, kws := [] }
def fns : List IFun := [f0, f1, f2, f3, f4, f5, f6, f7, f8, f9, f10, f11, f12, f13, f14, f15, f16]
-- globals: {'LETTERS': 0, 'DIGITS': 1, 'EMPTY': 2, 'COMMA': 3, 'BLANK': 4}
-- classes: {'BadText': 0, 'ValueError': 1}
end K90

set_option linter.all false
set_option Elab.async false
set_option maxRecDepth 100000
/-! G90: rows, printed by gen.py. -/
namespace K90
open PySem L2 IV
def top (i : Nat) : Stmt := PySem.Challenge.pw_onehostmore_k90_crowds_as_texts.main.body.getD i (.Pass ⟨0, 0, 0, 0⟩)
def r0 : Rw := ⟨"is_kind", top 3, ["thing", "sign"], ["thing"], f0⟩
def r1 : Rw := ⟨"number_in", top 4, ["text", "sign"], ["text"], f1⟩
def r2 : Rw := ⟨"crowd_text", top 11, ["crowd", "kind", "number"], ["crowd"], f2⟩
def r3 : Rw := ⟨"pair_in", top 12, ["text", "number", "kind", "gap", "rest"], ["text"], f3⟩
def r4 : Rw := ⟨"crowd_in", top 13, ["text", "found", "kinds", "part", "kind", "number"], ["text"], f4⟩
def r5 : Rw := ⟨"_law_box", top 15, ["_law_script", "_law_k", "_law_cell"], ["_law_script", "_law_k"], f5⟩
def r6 : Rw := ⟨"_law_take", top 16, ["_law_urn", "_law_low_so", "_law_once", "_law_far", "_law_twice", "_law_drawn"], ["_law_urn", "_law_low_so"], f6⟩
def r7 : Rw := ⟨"_law_cells", top 17, ["_law_script", "_law_top", "_law_cells_here", "_law_k", "_law_cell", "_law_at_so"], ["_law_script", "_law_top"], f7⟩
def r8 : Rw := ⟨"_law_of", top 18, ["_law_urn", "_law_some_so"], ["_law_urn", "_law_some_so"], f8⟩
def r9 : Rw := ⟨"_law_lists", top 19, ["_law_matter", "_law_bit"], ["_law_matter"], f9⟩
def r10 : Rw := ⟨"_law_same", top 20, ["_law_got", "_law_goal", "_law_mine_so", "_law_own"], ["_law_got", "_law_goal"], f10⟩
def r11 : Rw := ⟨"_law_lot", top 21, ["_law_urn", "_law_kinds_so", "_law_most", "_law_found", "_law_own", "_law_many"], ["_law_urn", "_law_kinds_so", "_law_most"], f11⟩
def r12 : Rw := ⟨"_law_heard", top 22, ["_law_say_so", "error_so", "_law_caught", "_law_told_here"], ["_law_say_so"], f12⟩
def r13 : Rw := ⟨"_law_by_hand_right", top 23, ["_law_far", "_law_raw", "_law_got", "_law_goal", "_law_fine", "_law_bad", "_law_own"], [], f13⟩
def r14 : Rw := ⟨"_law_told", top 24, ["_law_say_so", "_law_found", "_law_bit", "_law_names_so", "_law_turned", "_law_words", "_law_odd_so", "_law_own", "_law_k"], ["_law_say_so"], f14⟩
def r15 : Rw := ⟨"_law_right", top 25, ["_law_urn", "_law_turn", "_law_pool", "_law_lot_so", "_law_say_so", "_law_odd", "_law_spot", "_law_sign_so", "_law_own", "_law_many"], ["_law_urn"], f15⟩
def r16 : Rw := ⟨"law", top 26, ["_law_script", "_law_cells_here", "_law_k"], ["_law_script"], f16⟩
def rows : List Rw := [r0, r1, r2, r3, r4, r5, r6, r7, r8, r9, r10, r11, r12, r13, r14, r15, r16]
def gNm : List Str := ["LETTERS", "DIGITS", "EMPTY", "COMMA", "BLANK"]
def cNm : List Str := ["BadText", "ValueError"]
def ck : Ck := { fnm := rwNm rows, gnm := fun x => gNm.getD x "", fn := rwFn rows, pnm := rwPs rows, cnm := fun x => cNm.getD x "", hc := fun i => decide (i < 2), rs := fun i => [0].contains i }
theorem t0 : chkRow ck 60 r0 = true := by decide +kernel
theorem t1 : chkRow ck 60 r1 = true := by decide +kernel
theorem t2 : chkRow ck 60 r2 = true := by decide +kernel
theorem t3 : chkRow ck 60 r3 = true := by decide +kernel
theorem t4 : chkRow ck 60 r4 = true := by decide +kernel
theorem t5 : chkRow ck 60 r5 = true := by decide +kernel
theorem t6 : chkRow ck 60 r6 = true := by decide +kernel
theorem t7 : chkRow ck 60 r7 = true := by decide +kernel
theorem t8 : chkRow ck 60 r8 = true := by decide +kernel
theorem t9 : chkRow ck 60 r9 = true := by decide +kernel
theorem t10 : chkRow ck 60 r10 = true := by decide +kernel
theorem t11 : chkRow ck 60 r11 = true := by decide +kernel
theorem t12 : chkRow ck 60 r12 = true := by decide +kernel
theorem t13 : chkRow ck 60 r13 = true := by decide +kernel
theorem t14 : chkRow ck 60 r14 = true := by decide +kernel
theorem t15 : chkRow ck 60 r15 = true := by decide +kernel
theorem t16 : chkRow ck 60 r16 = true := by decide +kernel
theorem rows_fn (f : Nat) : rwFn rows f = fns[f]? := by
  unfold rwFn rows fns
  rw [← List.getElem?_map]
  rfl
end K90

set_option linter.all false
set_option Elab.async false
set_option maxRecDepth 100000
/-! P90: the plain law (own work; printed from P90.tpl by exp.py). -/
namespace K90
open IV

def glD : Nat → Option D
  | 0 => some (.str "abcdefghijklmnopqrstuvwxyz")
  | 1 => some (.str "0123456789")
  | 2 => some (.str "-")
  | 3 => some (.str ", ")
  | 4 => some (.str " ")
  | _ => none
def subD : Nat → Nat → Option Bool
  | 0, 0 => some true
  | 0, 1 => some true
  | _, _ => none
def T : Tab := { fn := fun f => fns[f]?, gl := glD, fuel := 0, sub := subD }
/-- the urn -/
abbrev urn (a b c : Int) : D := .lst [.int a, .int b, .int c]
theorem sub30 (x y z : D) : IV.subD (.lst [x, y, z]) (.int 0) = some x := rfl
theorem sub31 (x y z : D) : IV.subD (.lst [x, y, z]) (.int 1) = some y := rfl
theorem sub32 (x y z : D) : IV.subD (.lst [x, y, z]) (.int 2) = some z := rfl
theorem ix30 : L2.ixN 3 0 = some 0 := rfl
theorem ix32 : L2.ixN 3 2 = some 2 := rfl
theorem urn_set {d : D} {j : Int} {env : Env} {x y z : D} (h : isOwn d = false) : kSet3 0 d (.int j, .ow (.lst [x, y, z]) :: env) = (R.of (L2.ixN 3 j)).bind fun n => .ok (.next, .ow (.lst ([x, y, z].set n d)) :: env) := by
  rw [kSet3_lst h rfl]; rfl
theorem take_big (k : Nat) (a b c n : Int) (ha : 0 < a) (hn : 0 < n) (hl : n.natAbs.log2 < 9000) : callF T (k + 1) 6 [.ow (urn a b c), .fz (.int n)] = .ok (.int (a.fmod n), [.ow (urn (a.fdiv n) b c), .no]) := by
  rw [callF_eq k (F := f6) rfl rfl rfl]
  simp -implicitDefEqProofs only [List.replicate, List.cons_append, List.nil_append, evSs_c, evSs_n, thenS_next, thenS_ret, thenS_brk, thenS_cont, thenS_ex, retF_ret, retF_ex, retF_next, R.bind_ok, R.bind_ex, R.of_some, getE_z, getE_s, getE_n, ev_c, ev_v, kVar_fz, kVar_ow, ev_g, kPure_some, kBool_some, ev_tup, ev_lst, ev_bin, kBin_eq, kBin2_eq, ev_cmp, kCmp_eq, kCmp2_eq, ev_chain, kChain_eq, kChain2_eq, kChain3_t, kChain3_f, ev_isN, ev_notN, ev_not, kNot_eq, ev_and, kAnd_bl, kAnd2_t, kAnd2_f, ev_or, kOr_bl, kOr_lst, kOr2_t, kOr2_f, ev_ife, kIfe_eq, kIfe2_t, kIfe2_f, ev_sub, kSub_eq, kSub2_int, ev_slc, kSlc_eq, kSlc2_eq, kSlc3_eq, ev_calln, ev_bi, kBi_1, kBi_2, ev_isi, kIsi_eq, ev_isx, kIsx_eq, ev_me, kMe2_1, es_n, es_c, kEs_eq, st_asg, st_ret, st_if, kIf_eq, kIf2_t, kIf2_f, st_for, st_unp, st_expr, kExpr_eq, st_rais, st_pass, st_try, kTry_ok, st_set, st_fz, kFz_fz, kFz_no, kOwn_lst, kAsg_eq, kRet_eq, kSto_ok, kIsN_eq, kSeq_ok, Nat.reduceLeDiff, beq_tf, beq_ft, beq_tt, beq_ff, isNon_int, isNon_str, isNon_lst, isNon_tup, isNon_exc, isNon_bl, isNon_non, isOwn_exc, kUnp_2, kUnp_3, res_int, res_bl, res_str, res_lst, res_tup, res_non, nst_c, nst_v, nst_ov, nst_g, nst_tup, nst_lst, nst_bin, nst_neg, nst_cmp, nst_chain, nst_isN, nst_notN, nst_not, nst_and, nst_or, nst_ife, nst_sub, nst_slc, nst_rev, nst_call, nst_call1, nst_bi, nst_isi, nst_isx, nst_me, nst_pop, nst_popAt, nst_comp, nst_bad, isOwn_int, isOwn_bl, isOwn_str, isOwn_non, isOwn_tup, isOwn_lst, isOwn_own, decide_true, decide_false, truth_bl, if_true, if_false, Bool.false_eq_true, lockOf_zo, lockOf_zf, lockOf_zn, lockOf_s, lockOf_n, List.length_cons, List.length_nil, List.set_cons_zero, List.set_cons_succ, Nat.reduceAdd, Nat.reduceLT, ownsX_z, ownsX_s, ownsL_z, ownsL_s, Bool.not_true, Bool.not_false, outsE, bop_add, bop_sub, cop_gt, cop_ge, cop_lt, cop_le, bi_int, bi_intb, bi_abs, bi_lenL, bi_lenT, List.any_cons, List.any_nil, Bool.or_false, Bool.false_or, f6, b6, res_ow0, sub30, sub31, sub32, ix30, ix32, ha, bop_mod hn, bop_fdiv hn hl, kSet_eq, urn_set]
theorem take_small (k : Nat) (a b c n : Int) (ha : ¬ 0 < a) (hn : 0 < n) (hc : 0 ≤ c) (hc2 : c < 1000000) (hb : 0 ≤ b) (hb2 : b < 10000000000000000000) : ∃ r, 0 ≤ r ∧ r < n ∧ callF T (k + 1) 6 [.ow (urn a b c), .fz (.int n)] = .ok (.int r, [.ow (urn a b (c + 1)), .no]) := by
  have m1 : (small 48271 || small (c + 1)) = true := by rw [show small 48271 = true by decide]; rfl
  have m2 : (small (b + 48271 * (c + 1)) || small (39373 + (c + 1))) = true := by simp [small]; omega
  have m3 : ∀ x y : Int, (small x || small (Int.fmod y 40009 + 7)) = true := fun x y => by
    have h1 := Int.fmod_nonneg_of_pos y (show (0 : Int) < 40009 by decide)
    have h2 := Int.fmod_lt_of_pos y (show (0 : Int) < 40009 by decide)
    simp [small]; omega
  have m4 : ∀ x : Int, (small x || small 48271) = true := fun x => by simp [small]
  suffices h : ∃ m : Int, callF T (k + 1) 6 [.ow (urn a b c), .fz (.int n)] = .ok (.int (m.fmod n), [.ow (urn a b (c + 1)), .no]) by
    obtain ⟨m, h⟩ := h
    exact ⟨_, Int.fmod_nonneg_of_pos m hn, Int.fmod_lt_of_pos m hn, h⟩
  obtain ⟨x, hx⟩ : ∃ x, callF T (k + 1) 6 [.ow (urn a b c), .fz (.int n)] = x := ⟨_, rfl⟩
  have h2 := hx
  rw [callF_eq k (F := f6) rfl rfl rfl] at h2
  simp -implicitDefEqProofs only [List.replicate, List.cons_append, List.nil_append, evSs_c, evSs_n, thenS_next, thenS_ret, thenS_brk, thenS_cont, thenS_ex, retF_ret, retF_ex, retF_next, R.bind_ok, R.bind_ex, R.of_some, getE_z, getE_s, getE_n, ev_c, ev_v, kVar_fz, kVar_ow, ev_g, kPure_some, kBool_some, ev_tup, ev_lst, ev_bin, kBin_eq, kBin2_eq, ev_cmp, kCmp_eq, kCmp2_eq, ev_chain, kChain_eq, kChain2_eq, kChain3_t, kChain3_f, ev_isN, ev_notN, ev_not, kNot_eq, ev_and, kAnd_bl, kAnd2_t, kAnd2_f, ev_or, kOr_bl, kOr_lst, kOr2_t, kOr2_f, ev_ife, kIfe_eq, kIfe2_t, kIfe2_f, ev_sub, kSub_eq, kSub2_int, ev_slc, kSlc_eq, kSlc2_eq, kSlc3_eq, ev_calln, ev_bi, kBi_1, kBi_2, ev_isi, kIsi_eq, ev_isx, kIsx_eq, ev_me, kMe2_1, es_n, es_c, kEs_eq, st_asg, st_ret, st_if, kIf_eq, kIf2_t, kIf2_f, st_for, st_unp, st_expr, kExpr_eq, st_rais, st_pass, st_try, kTry_ok, st_set, st_fz, kFz_fz, kFz_no, kOwn_lst, kAsg_eq, kRet_eq, kSto_ok, kIsN_eq, kSeq_ok, Nat.reduceLeDiff, beq_tf, beq_ft, beq_tt, beq_ff, isNon_int, isNon_str, isNon_lst, isNon_tup, isNon_exc, isNon_bl, isNon_non, isOwn_exc, kUnp_2, kUnp_3, res_int, res_bl, res_str, res_lst, res_tup, res_non, nst_c, nst_v, nst_ov, nst_g, nst_tup, nst_lst, nst_bin, nst_neg, nst_cmp, nst_chain, nst_isN, nst_notN, nst_not, nst_and, nst_or, nst_ife, nst_sub, nst_slc, nst_rev, nst_call, nst_call1, nst_bi, nst_isi, nst_isx, nst_me, nst_pop, nst_popAt, nst_comp, nst_bad, isOwn_int, isOwn_bl, isOwn_str, isOwn_non, isOwn_tup, isOwn_lst, isOwn_own, decide_true, decide_false, truth_bl, if_true, if_false, Bool.false_eq_true, lockOf_zo, lockOf_zf, lockOf_zn, lockOf_s, lockOf_n, List.length_cons, List.length_nil, List.set_cons_zero, List.set_cons_succ, Nat.reduceAdd, Nat.reduceLT, ownsX_z, ownsX_s, ownsL_z, ownsL_s, Bool.not_true, Bool.not_false, outsE, bop_add, bop_sub, cop_gt, cop_ge, cop_lt, cop_le, bi_int, bi_intb, bi_abs, bi_lenL, bi_lenT, List.any_cons, List.any_nil, Bool.or_false, Bool.false_or, f6, b6, res_ow0, sub30, sub31, sub32, ix30, ix32, ha, bop_mul m1, bop_mul m2, bop_mul (m3 _ _), bop_mul (m4 _), bop_mod hn, bop_mod (show (0 : Int) < 2147483647 by decide), bop_mod (show (0 : Int) < 40009 by decide), bop_mod (show (0 : Int) < 2147483629 by decide), bop_mod (show (0 : Int) < 2147483587 by decide), bop_fdiv (show (0 : Int) < 1000003 by decide) (by decide +kernel), bop_fdiv (show (0 : Int) < 64 by decide) (by decide +kernel), kSet_eq, urn_set] at h2
  exact ⟨_, hx.trans h2.symm⟩
/-- an urn from which at most m have been drawn by turns -/
def UrnOk (m : Int) (d : D) : Prop := ∃ a b c, d = urn a b c ∧ 0 ≤ b ∧ b < 10000000000000000000 ∧ 0 ≤ c ∧ c ≤ m
theorem UrnOk.up {m m' : Int} {d : D} (h : UrnOk m d) (hm : m ≤ m') : UrnOk m' d := by
  obtain ⟨a, b, c, e, h1, h2, h3, h4⟩ := h
  exact ⟨a, b, c, e, h1, h2, h3, by omega⟩
theorem take_ok (k : Nat) {u : D} {m n : Int} (h : UrnOk m u) (hm : m < 1000000) (hn : 0 < n) (hl : n.natAbs.log2 < 9000) : ∃ r u', 0 ≤ r ∧ r < n ∧ UrnOk (m + 1) u' ∧ callF T (k + 1) 6 [.ow u, .fz (.int n)] = .ok (.int r, [.ow u', .no]) := by
  obtain ⟨a, b, c, rfl, h1, h2, h3, h4⟩ := h
  by_cases ha : 0 < a
  · exact ⟨_, _, Int.fmod_nonneg_of_pos a hn, Int.fmod_lt_of_pos a hn, ⟨_, b, c, rfl, h1, h2, h3, by omega⟩, take_big k a b c n ha hn hl⟩
  · obtain ⟨r, q1, q2, q3⟩ := take_small k a b c n ha hn h3 (by omega) h1 h2
    exact ⟨r, _, q1, q2, ⟨a, b, c + 1, rfl, h1, h2, by omega, by omega⟩, q3⟩
theorem log_ok {n : Int} (h : n.natAbs < 2 ^ 200) : n.natAbs.log2 < 9000 := by
  by_cases h0 : n.natAbs = 0
  · rw [h0]; decide
  · have := (Nat.log2_lt h0).mpr h
    omega
theorem log_len {n : Nat} (h : n ≤ 1000) : ((n : Int)).natAbs.log2 < 9000 := log_ok (Nat.lt_of_le_of_lt (by omega : ((n : Int)).natAbs ≤ 1000) (by decide))
theorem atI_ok {xs : List D} {r : Int} (h0 : 0 ≤ r) (h1 : r < xs.length) : ∃ x ∈ xs, L2.atI xs r = some x := by
  have hr : r.toNat < xs.length := by omega
  refine ⟨xs[r.toNat], List.getElem_mem hr, ?_⟩
  unfold L2.atI L2.ixN
  rw [if_pos h0, if_pos h1, Option.bind_some, List.getElem?_eq_getElem hr]
/-- a draw where the urn is the first name -/
theorem draw {k : Nat} {u u' : D} {n r : Int} {o : Ent} (hc : callF T k 6 [.ow u, .fz (.int n)] = .ok (.int r, [.ow u', o])) (rest : Env) : callD (callF T k) 6 [.own 0, .int n] (.ow u :: rest) = .ok (.int r, .ow u' :: rest) := callD_ok rfl rfl hc
theorem subD_lst (xs : List D) (i : Int) : IV.subD (.lst xs) (.int i) = L2.atI xs i := rfl
theorem of_ok (k : Nat) {u : D} {m : Int} {xs : List D} (h : UrnOk m u) (hm : m < 1000000) (h0 : 0 < xs.length) (h1 : xs.length ≤ 1000) (hno : ∀ x ∈ xs, isOwn x = false) : ∃ x ∈ xs, ∃ u', UrnOk (m + 1) u' ∧ callF T (k + 2) 8 [.ow u, .fz (.lst xs)] = .ok (x, [.ow u', .no]) := by
  obtain ⟨r, u', q1, q2, q3, q4⟩ := take_ok k (n := (xs.length : Int)) h hm (by omega) (log_len h1)
  obtain ⟨x, hx, hx2⟩ := atI_ok q1 q2
  refine ⟨x, hx, u', q3, ?_⟩
  rw [callF_eq (k + 1) (F := f8) rfl rfl rfl]
  simp -implicitDefEqProofs only [List.replicate, List.cons_append, List.nil_append, evSs_c, evSs_n, thenS_next, thenS_ret, thenS_brk, thenS_cont, thenS_ex, retF_ret, retF_ex, retF_next, R.bind_ok, R.bind_ex, R.of_some, getE_z, getE_s, getE_n, ev_c, ev_v, kVar_fz, kVar_ow, ev_g, kPure_some, kBool_some, ev_tup, ev_lst, ev_bin, kBin_eq, kBin2_eq, ev_cmp, kCmp_eq, kCmp2_eq, ev_chain, kChain_eq, kChain2_eq, kChain3_t, kChain3_f, ev_isN, ev_notN, ev_not, kNot_eq, ev_and, kAnd_bl, kAnd2_t, kAnd2_f, ev_or, kOr_bl, kOr_lst, kOr2_t, kOr2_f, ev_ife, kIfe_eq, kIfe2_t, kIfe2_f, ev_sub, kSub_eq, kSub2_int, ev_slc, kSlc_eq, kSlc2_eq, kSlc3_eq, ev_calln, ev_bi, kBi_1, kBi_2, ev_isi, kIsi_eq, ev_isx, kIsx_eq, ev_me, kMe2_1, es_n, es_c, kEs_eq, st_asg, st_ret, st_if, kIf_eq, kIf2_t, kIf2_f, st_for, st_unp, st_expr, kExpr_eq, st_rais, st_pass, st_try, kTry_ok, st_set, st_fz, kFz_fz, kFz_no, kOwn_lst, kAsg_eq, kRet_eq, kSto_ok, kIsN_eq, kSeq_ok, Nat.reduceLeDiff, beq_tf, beq_ft, beq_tt, beq_ff, isNon_int, isNon_str, isNon_lst, isNon_tup, isNon_exc, isNon_bl, isNon_non, isOwn_exc, kUnp_2, kUnp_3, res_int, res_bl, res_str, res_lst, res_tup, res_non, nst_c, nst_v, nst_ov, nst_g, nst_tup, nst_lst, nst_bin, nst_neg, nst_cmp, nst_chain, nst_isN, nst_notN, nst_not, nst_and, nst_or, nst_ife, nst_sub, nst_slc, nst_rev, nst_call, nst_call1, nst_bi, nst_isi, nst_isx, nst_me, nst_pop, nst_popAt, nst_comp, nst_bad, isOwn_int, isOwn_bl, isOwn_str, isOwn_non, isOwn_tup, isOwn_lst, isOwn_own, decide_true, decide_false, truth_bl, if_true, if_false, Bool.false_eq_true, lockOf_zo, lockOf_zf, lockOf_zn, lockOf_s, lockOf_n, List.length_cons, List.length_nil, List.set_cons_zero, List.set_cons_succ, Nat.reduceAdd, Nat.reduceLT, ownsX_z, ownsX_s, ownsL_z, ownsL_s, Bool.not_true, Bool.not_false, outsE, bop_add, bop_sub, cop_gt, cop_ge, cop_lt, cop_le, bi_int, bi_intb, bi_abs, bi_lenL, bi_lenT, List.any_cons, List.any_nil, Bool.or_false, Bool.false_or, f8, b8, kCall_2 T (callF T (k + 1)) (f := 6) (F := f6) rfl rfl, draw q4, subD_lst, hx2, hno x hx]
/-! ### texts -/
/-- a text by its signs -/
abbrev st (l : List Nat) : D := .str ⟨⟨l⟩⟩
theorem str_beq (l l' : List Nat) : ((⟨⟨l⟩⟩ : PySem.Str) == ⟨⟨l'⟩⟩) = decide (l = l') := by
  rw [Bool.eq_iff_iff, beq_iff_eq, decide_eq_true_eq]
  exact ⟨fun h => by cases h; rfl, fun h => by rw [h]⟩
theorem cop_eqS (l l' : List Nat) : cop .eq (st l) (st l') = some (decide (l = l')) := by
  show some ((⟨⟨l⟩⟩ : PySem.Str) == ⟨⟨l'⟩⟩) = _
  rw [str_beq]
theorem cop_neS (l l' : List Nat) : cop .ne (st l) (st l') = some (!decide (l = l')) := by
  show some (!((⟨⟨l⟩⟩ : PySem.Str) == ⟨⟨l'⟩⟩)) = _
  rw [str_beq]
theorem chars_st (l : List Nat) : chars ⟨⟨l⟩⟩ = l.map fun c => st [c] := rfl
theorem isin_st (c : Nat) (l : List Nat) : cop .isin (st [c]) (st l) = some (decide (c ∈ l)) := rfl
theorem all_bl (p : Nat → Bool) (l : List Nat) : biD .all [.lst (l.map fun c => .bl (p c))] = some (.bl (l.all p)) := by
  have h : ∀ l : List Nat, bools (l.map fun c => D.bl (p c)) = some (l.map p) := fun l => by
    induction l with
    | nil => rfl
    | cons c l ih => rw [List.map_cons, bools, ih]; rfl
  show (bools _).map _ = _
  rw [h]
  simp [List.all_map]
/-- sign by sign: all of a text's signs are among those of another -/
def LET : List Nat := [97, 98, 99, 100, 101, 102, 103, 104, 105, 106, 107, 108, 109, 110, 111, 112, 113, 114, 115, 116, 117, 118, 119, 120, 121, 122]
def DIG : List Nat := [48, 49, 50, 51, 52, 53, 54, 55, 56, 57]
theorem gl0 : T.gl 0 = some (st LET) := rfl
theorem gl1 : T.gl 1 = some (st DIG) := rfl
theorem gl2 : T.gl 2 = some (st [45]) := rfl
theorem gl3 : T.gl 3 = some (st [44, 32]) := rfl
theorem gl4 : T.gl 4 = some (st [32]) := rfl
def first (d : D) : Nat := match d with
  | .str s => s.cps.toList.headD 0
  | _ => 0
theorem comp_in {C : Nat → Env → R (D × Env)} {lk : Lk} {i j x : Nat} {l L : List Nat} {env : Env} (hg : T.gl x = some (st L)) (hv : getE env i = .fz (st l)) (hj : j < env.length) (hl : lk j = false) (hw : noOw env [j] = true) (hlen : l.length ≤ line) :
    evE T C lk (.comp [j] (.n j) .seq [.v i] [] true (.cmp .isin (.v j) (.g x))) env = .ok (.lst (l.map fun c => .bl (decide (c ∈ L))), env) := by
  rw [ev_comp1 (ds := [st l]) (xs := chars ⟨⟨l⟩⟩) (t := fun _ => true) (g := fun d => .bl (decide (first d ∈ L))) ?_ rfl rfl hj hl hw ?_ ?_]
  · rw [filter_tt, chars_st, List.map_map]; rfl
  · simp -implicitDefEqProofs only [List.replicate, List.cons_append, List.nil_append, evSs_c, evSs_n, thenS_next, thenS_ret, thenS_brk, thenS_cont, thenS_ex, retF_ret, retF_ex, retF_next, R.bind_ok, R.bind_ex, R.of_some, getE_z, getE_s, getE_n, ev_c, ev_v, kVar_fz, kVar_ow, ev_g, kPure_some, kBool_some, ev_tup, ev_lst, ev_bin, kBin_eq, kBin2_eq, ev_cmp, kCmp_eq, kCmp2_eq, ev_chain, kChain_eq, kChain2_eq, kChain3_t, kChain3_f, ev_isN, ev_notN, ev_not, kNot_eq, ev_and, kAnd_bl, kAnd2_t, kAnd2_f, ev_or, kOr_bl, kOr_lst, kOr2_t, kOr2_f, ev_ife, kIfe_eq, kIfe2_t, kIfe2_f, ev_sub, kSub_eq, kSub2_int, ev_slc, kSlc_eq, kSlc2_eq, kSlc3_eq, ev_calln, ev_bi, kBi_1, kBi_2, ev_isi, kIsi_eq, ev_isx, kIsx_eq, ev_me, kMe2_1, es_n, es_c, kEs_eq, st_asg, st_ret, st_if, kIf_eq, kIf2_t, kIf2_f, st_for, st_unp, st_expr, kExpr_eq, st_rais, st_pass, st_try, kTry_ok, st_set, st_fz, kFz_fz, kFz_no, kOwn_lst, kAsg_eq, kRet_eq, kSto_ok, kIsN_eq, kSeq_ok, Nat.reduceLeDiff, beq_tf, beq_ft, beq_tt, beq_ff, isNon_int, isNon_str, isNon_lst, isNon_tup, isNon_exc, isNon_bl, isNon_non, isOwn_exc, kUnp_2, kUnp_3, res_int, res_bl, res_str, res_lst, res_tup, res_non, nst_c, nst_v, nst_ov, nst_g, nst_tup, nst_lst, nst_bin, nst_neg, nst_cmp, nst_chain, nst_isN, nst_notN, nst_not, nst_and, nst_or, nst_ife, nst_sub, nst_slc, nst_rev, nst_call, nst_call1, nst_bi, nst_isi, nst_isx, nst_me, nst_pop, nst_popAt, nst_comp, nst_bad, isOwn_int, isOwn_bl, isOwn_str, isOwn_non, isOwn_tup, isOwn_lst, isOwn_own, decide_true, decide_false, truth_bl, if_true, if_false, Bool.false_eq_true, lockOf_zo, lockOf_zf, lockOf_zn, lockOf_s, lockOf_n, List.length_cons, List.length_nil, List.set_cons_zero, List.set_cons_succ, Nat.reduceAdd, Nat.reduceLT, ownsX_z, ownsX_s, ownsL_z, ownsL_s, Bool.not_true, Bool.not_false, outsE, bop_add, bop_sub, cop_gt, cop_ge, cop_lt, cop_le, bi_int, bi_intb, bi_abs, bi_lenL, bi_lenT, List.any_cons, List.any_nil, Bool.or_false, Bool.false_or, hv]
  · intro d hd
    rw [chars_st] at hd
    obtain ⟨c, hc, rfl⟩ := List.mem_map.mp hd
    have hg2 : getE (env.set j (.fz (st [c]))) j = .fz (st [c]) := by
      unfold getE List.getD
      rw [List.getElem?_set_self hj]; rfl
    refine ⟨rfl, evTs_nil .., fun _ => ⟨?_, rfl⟩⟩
    simp -implicitDefEqProofs only [List.replicate, List.cons_append, List.nil_append, evSs_c, evSs_n, thenS_next, thenS_ret, thenS_brk, thenS_cont, thenS_ex, retF_ret, retF_ex, retF_next, R.bind_ok, R.bind_ex, R.of_some, getE_z, getE_s, getE_n, ev_c, ev_v, kVar_fz, kVar_ow, ev_g, kPure_some, kBool_some, ev_tup, ev_lst, ev_bin, kBin_eq, kBin2_eq, ev_cmp, kCmp_eq, kCmp2_eq, ev_chain, kChain_eq, kChain2_eq, kChain3_t, kChain3_f, ev_isN, ev_notN, ev_not, kNot_eq, ev_and, kAnd_bl, kAnd2_t, kAnd2_f, ev_or, kOr_bl, kOr_lst, kOr2_t, kOr2_f, ev_ife, kIfe_eq, kIfe2_t, kIfe2_f, ev_sub, kSub_eq, kSub2_int, ev_slc, kSlc_eq, kSlc2_eq, kSlc3_eq, ev_calln, ev_bi, kBi_1, kBi_2, ev_isi, kIsi_eq, ev_isx, kIsx_eq, ev_me, kMe2_1, es_n, es_c, kEs_eq, st_asg, st_ret, st_if, kIf_eq, kIf2_t, kIf2_f, st_for, st_unp, st_expr, kExpr_eq, st_rais, st_pass, st_try, kTry_ok, st_set, st_fz, kFz_fz, kFz_no, kOwn_lst, kAsg_eq, kRet_eq, kSto_ok, kIsN_eq, kSeq_ok, Nat.reduceLeDiff, beq_tf, beq_ft, beq_tt, beq_ff, isNon_int, isNon_str, isNon_lst, isNon_tup, isNon_exc, isNon_bl, isNon_non, isOwn_exc, kUnp_2, kUnp_3, res_int, res_bl, res_str, res_lst, res_tup, res_non, nst_c, nst_v, nst_ov, nst_g, nst_tup, nst_lst, nst_bin, nst_neg, nst_cmp, nst_chain, nst_isN, nst_notN, nst_not, nst_and, nst_or, nst_ife, nst_sub, nst_slc, nst_rev, nst_call, nst_call1, nst_bi, nst_isi, nst_isx, nst_me, nst_pop, nst_popAt, nst_comp, nst_bad, isOwn_int, isOwn_bl, isOwn_str, isOwn_non, isOwn_tup, isOwn_lst, isOwn_own, decide_true, decide_false, truth_bl, if_true, if_false, Bool.false_eq_true, lockOf_zo, lockOf_zf, lockOf_zn, lockOf_s, lockOf_n, List.length_cons, List.length_nil, List.set_cons_zero, List.set_cons_succ, Nat.reduceAdd, Nat.reduceLT, ownsX_z, ownsX_s, ownsL_z, ownsL_s, Bool.not_true, Bool.not_false, outsE, bop_add, bop_sub, cop_gt, cop_ge, cop_lt, cop_le, bi_int, bi_intb, bi_abs, bi_lenL, bi_lenT, List.any_cons, List.any_nil, Bool.or_false, Bool.false_or, hg2, hg, isin_st]
    rfl
  · rw [chars_st, List.length_map]; exact hlen
end K90

set_option linter.all false
set_option Elab.async false
set_option maxRecDepth 100000
/-! P90b: reading a crowd's text (own work; printed from P90b.tpl by exp.py). -/
namespace K90
open IV

theorem s_e : D.str "" = st [] := rfl
theorem s_0 : D.str "0" = st [48] := rfl
theorem s_bad : D.str "bad" = st [98, 97, 100] := rfl
def kindB (l : List Nat) : Bool := !decide (l = []) && l.all fun c => decide (c ∈ LET)
theorem isi_str (l : List Nat) : tyAny (st l) [.str] = some true := rfl
theorem is_kind_ok (k : Nat) {l : List Nat} (hlen : l.length ≤ 1000) : callF T (k + 1) 0 [.fz (st l)] = .ok (.bl (kindB l), [.no]) := by
  rw [callF_eq k (F := f0) rfl rfl rfl]
  by_cases h : l = []
  · subst h
    simp -implicitDefEqProofs only [List.replicate, List.cons_append, List.nil_append, evSs_c, evSs_n, thenS_next, thenS_ret, thenS_brk, thenS_cont, thenS_ex, retF_ret, retF_ex, retF_next, R.bind_ok, R.bind_ex, R.of_some, getE_z, getE_s, getE_n, ev_c, ev_v, kVar_fz, kVar_ow, ev_g, kPure_some, kBool_some, ev_tup, ev_lst, ev_bin, kBin_eq, kBin2_eq, ev_cmp, kCmp_eq, kCmp2_eq, ev_chain, kChain_eq, kChain2_eq, kChain3_t, kChain3_f, ev_isN, ev_notN, ev_not, kNot_eq, ev_and, kAnd_bl, kAnd2_t, kAnd2_f, ev_or, kOr_bl, kOr_lst, kOr2_t, kOr2_f, ev_ife, kIfe_eq, kIfe2_t, kIfe2_f, ev_sub, kSub_eq, kSub2_int, ev_slc, kSlc_eq, kSlc2_eq, kSlc3_eq, ev_calln, ev_bi, kBi_1, kBi_2, ev_isi, kIsi_eq, ev_isx, kIsx_eq, ev_me, kMe2_1, es_n, es_c, kEs_eq, st_asg, st_ret, st_if, kIf_eq, kIf2_t, kIf2_f, st_for, st_unp, st_expr, kExpr_eq, st_rais, st_pass, st_try, kTry_ok, st_set, st_fz, kFz_fz, kFz_no, kOwn_lst, kAsg_eq, kRet_eq, kSto_ok, kIsN_eq, kSeq_ok, Nat.reduceLeDiff, beq_tf, beq_ft, beq_tt, beq_ff, isNon_int, isNon_str, isNon_lst, isNon_tup, isNon_exc, isNon_bl, isNon_non, isOwn_exc, kUnp_2, kUnp_3, res_int, res_bl, res_str, res_lst, res_tup, res_non, nst_c, nst_v, nst_ov, nst_g, nst_tup, nst_lst, nst_bin, nst_neg, nst_cmp, nst_chain, nst_isN, nst_notN, nst_not, nst_and, nst_or, nst_ife, nst_sub, nst_slc, nst_rev, nst_call, nst_call1, nst_bi, nst_isi, nst_isx, nst_me, nst_pop, nst_popAt, nst_comp, nst_bad, isOwn_int, isOwn_bl, isOwn_str, isOwn_non, isOwn_tup, isOwn_lst, isOwn_own, decide_true, decide_false, truth_bl, if_true, if_false, Bool.false_eq_true, lockOf_zo, lockOf_zf, lockOf_zn, lockOf_s, lockOf_n, List.length_cons, List.length_nil, List.set_cons_zero, List.set_cons_succ, Nat.reduceAdd, Nat.reduceLT, ownsX_z, ownsX_s, ownsL_z, ownsL_s, Bool.not_true, Bool.not_false, outsE, bop_add, bop_sub, cop_gt, cop_ge, cop_lt, cop_le, bi_int, bi_intb, bi_abs, bi_lenL, bi_lenT, List.any_cons, List.any_nil, Bool.or_false, Bool.false_or, f0, b0, isi_str, s_e, cop_neS]
    rfl
  · have hL : l.length ≤ line := Nat.le_trans hlen (by decide)
    have cm := comp_in (C := callF T k) (lk := lockOf [.fz (st l)]) (i := 0) (j := 1) (env := [.fz (st l), .no]) gl0 rfl (show 1 < 2 by decide) rfl rfl hL
    simp -implicitDefEqProofs only [List.replicate, List.cons_append, List.nil_append, evSs_c, evSs_n, thenS_next, thenS_ret, thenS_brk, thenS_cont, thenS_ex, retF_ret, retF_ex, retF_next, R.bind_ok, R.bind_ex, R.of_some, getE_z, getE_s, getE_n, ev_c, ev_v, kVar_fz, kVar_ow, ev_g, kPure_some, kBool_some, ev_tup, ev_lst, ev_bin, kBin_eq, kBin2_eq, ev_cmp, kCmp_eq, kCmp2_eq, ev_chain, kChain_eq, kChain2_eq, kChain3_t, kChain3_f, ev_isN, ev_notN, ev_not, kNot_eq, ev_and, kAnd_bl, kAnd2_t, kAnd2_f, ev_or, kOr_bl, kOr_lst, kOr2_t, kOr2_f, ev_ife, kIfe_eq, kIfe2_t, kIfe2_f, ev_sub, kSub_eq, kSub2_int, ev_slc, kSlc_eq, kSlc2_eq, kSlc3_eq, ev_calln, ev_bi, kBi_1, kBi_2, ev_isi, kIsi_eq, ev_isx, kIsx_eq, ev_me, kMe2_1, es_n, es_c, kEs_eq, st_asg, st_ret, st_if, kIf_eq, kIf2_t, kIf2_f, st_for, st_unp, st_expr, kExpr_eq, st_rais, st_pass, st_try, kTry_ok, st_set, st_fz, kFz_fz, kFz_no, kOwn_lst, kAsg_eq, kRet_eq, kSto_ok, kIsN_eq, kSeq_ok, Nat.reduceLeDiff, beq_tf, beq_ft, beq_tt, beq_ff, isNon_int, isNon_str, isNon_lst, isNon_tup, isNon_exc, isNon_bl, isNon_non, isOwn_exc, kUnp_2, kUnp_3, res_int, res_bl, res_str, res_lst, res_tup, res_non, nst_c, nst_v, nst_ov, nst_g, nst_tup, nst_lst, nst_bin, nst_neg, nst_cmp, nst_chain, nst_isN, nst_notN, nst_not, nst_and, nst_or, nst_ife, nst_sub, nst_slc, nst_rev, nst_call, nst_call1, nst_bi, nst_isi, nst_isx, nst_me, nst_pop, nst_popAt, nst_comp, nst_bad, isOwn_int, isOwn_bl, isOwn_str, isOwn_non, isOwn_tup, isOwn_lst, isOwn_own, decide_true, decide_false, truth_bl, if_true, if_false, Bool.false_eq_true, lockOf_zo, lockOf_zf, lockOf_zn, lockOf_s, lockOf_n, List.length_cons, List.length_nil, List.set_cons_zero, List.set_cons_succ, Nat.reduceAdd, Nat.reduceLT, ownsX_z, ownsX_s, ownsL_z, ownsL_s, Bool.not_true, Bool.not_false, outsE, bop_add, bop_sub, cop_gt, cop_ge, cop_lt, cop_le, bi_int, bi_intb, bi_abs, bi_lenL, bi_lenT, List.any_cons, List.any_nil, Bool.or_false, Bool.false_or, f0, b0, isi_str, s_e, cop_neS, h, cm, all_bl]
    simp only [kindB, h, decide_false, Bool.not_false, Bool.true_and]
/-- what number_in makes of a text -/
def numIn (l : List Nat) : D := if l = [] then .non else if l.all (fun c => decide (c ∈ DIG)) then (if l.head? = some 48 ∧ l ≠ [48] then .non else .int (PySem.NumText.digitsVal l)) else .non
theorem dig_all {l : List Nat} (h : l.all (fun c => decide (c ∈ DIG)) = true) : PySem.NumText.AllDigits l := fun c hc => by
  have := List.all_eq_true.mp h c hc
  simp [DIG] at this
  omega
theorem int_dig {l : List Nat} (h : l.all (fun c => decide (c ∈ DIG)) = true) (h0 : l ≠ []) (hlen : l.length ≤ 600) : biD .int [st l] = some (.int (PySem.NumText.digitsVal l)) := by
  show (if l.length ≤ 640 then (PySem.intText? ⟨⟨l⟩⟩).map D.int else none) = _
  rw [if_pos (by omega), PySem.intText_digits (x := ⟨⟨l⟩⟩) (dig_all h) h0 (show l.length ≤ 4300 by omega)]
  rfl
theorem sub_st (c : Nat) (l : List Nat) (h : l.length ≤ 1000) : IV.subD (st (c :: l)) (.int 0) = some (st [c]) := by
  show (if (c :: l).length ≤ line then (L2.atI (c :: l) 0).map fun c => D.str ⟨#[c]⟩ else none) = _
  rw [if_pos (Nat.le_trans (show (c :: l).length ≤ 1001 by simpa using h) (by decide))]
  have : L2.atI (c :: l) 0 = some c := by
    unfold L2.atI L2.ixN
    rw [if_pos (by decide), if_pos (by simp)]
    rfl
  rw [this]
  rfl
theorem number_in_ok (k : Nat) {l : List Nat} (hlen : l.length ≤ 600) : callF T (k + 1) 1 [.fz (st l)] = .ok (numIn l, [.no]) := by
  rw [callF_eq k (F := f1) rfl rfl rfl]
  have hL : l.length ≤ line := Nat.le_trans hlen (by decide)
  have cm := comp_in (C := callF T k) (lk := lockOf [.fz (st l)]) (i := 0) (j := 1) (env := [.fz (st l), .no]) gl1 rfl (show 1 < 2 by decide) rfl rfl hL
  match l, hlen, cm with
  | [], _, _ =>
    simp -implicitDefEqProofs only [List.replicate, List.cons_append, List.nil_append, evSs_c, evSs_n, thenS_next, thenS_ret, thenS_brk, thenS_cont, thenS_ex, retF_ret, retF_ex, retF_next, R.bind_ok, R.bind_ex, R.of_some, getE_z, getE_s, getE_n, ev_c, ev_v, kVar_fz, kVar_ow, ev_g, kPure_some, kBool_some, ev_tup, ev_lst, ev_bin, kBin_eq, kBin2_eq, ev_cmp, kCmp_eq, kCmp2_eq, ev_chain, kChain_eq, kChain2_eq, kChain3_t, kChain3_f, ev_isN, ev_notN, ev_not, kNot_eq, ev_and, kAnd_bl, kAnd2_t, kAnd2_f, ev_or, kOr_bl, kOr_lst, kOr2_t, kOr2_f, ev_ife, kIfe_eq, kIfe2_t, kIfe2_f, ev_sub, kSub_eq, kSub2_int, ev_slc, kSlc_eq, kSlc2_eq, kSlc3_eq, ev_calln, ev_bi, kBi_1, kBi_2, ev_isi, kIsi_eq, ev_isx, kIsx_eq, ev_me, kMe2_1, es_n, es_c, kEs_eq, st_asg, st_ret, st_if, kIf_eq, kIf2_t, kIf2_f, st_for, st_unp, st_expr, kExpr_eq, st_rais, st_pass, st_try, kTry_ok, st_set, st_fz, kFz_fz, kFz_no, kOwn_lst, kAsg_eq, kRet_eq, kSto_ok, kIsN_eq, kSeq_ok, Nat.reduceLeDiff, beq_tf, beq_ft, beq_tt, beq_ff, isNon_int, isNon_str, isNon_lst, isNon_tup, isNon_exc, isNon_bl, isNon_non, isOwn_exc, kUnp_2, kUnp_3, res_int, res_bl, res_str, res_lst, res_tup, res_non, nst_c, nst_v, nst_ov, nst_g, nst_tup, nst_lst, nst_bin, nst_neg, nst_cmp, nst_chain, nst_isN, nst_notN, nst_not, nst_and, nst_or, nst_ife, nst_sub, nst_slc, nst_rev, nst_call, nst_call1, nst_bi, nst_isi, nst_isx, nst_me, nst_pop, nst_popAt, nst_comp, nst_bad, isOwn_int, isOwn_bl, isOwn_str, isOwn_non, isOwn_tup, isOwn_lst, isOwn_own, decide_true, decide_false, truth_bl, if_true, if_false, Bool.false_eq_true, lockOf_zo, lockOf_zf, lockOf_zn, lockOf_s, lockOf_n, List.length_cons, List.length_nil, List.set_cons_zero, List.set_cons_succ, Nat.reduceAdd, Nat.reduceLT, ownsX_z, ownsX_s, ownsL_z, ownsL_s, Bool.not_true, Bool.not_false, outsE, bop_add, bop_sub, cop_gt, cop_ge, cop_lt, cop_le, bi_int, bi_intb, bi_abs, bi_lenL, bi_lenT, List.any_cons, List.any_nil, Bool.or_false, Bool.false_or, f1, b1, s_e, cop_eqS]
    rfl
  | c :: r, hlen, cm =>
    have h : ¬ (c :: r = []) := by simp
    have hr : r.length ≤ 1000 := by simp at hlen; omega
    cases ha : (c :: r).all (fun c => decide (c ∈ DIG)) with
    | false =>
      simp -implicitDefEqProofs only [List.replicate, List.cons_append, List.nil_append, evSs_c, evSs_n, thenS_next, thenS_ret, thenS_brk, thenS_cont, thenS_ex, retF_ret, retF_ex, retF_next, R.bind_ok, R.bind_ex, R.of_some, getE_z, getE_s, getE_n, ev_c, ev_v, kVar_fz, kVar_ow, ev_g, kPure_some, kBool_some, ev_tup, ev_lst, ev_bin, kBin_eq, kBin2_eq, ev_cmp, kCmp_eq, kCmp2_eq, ev_chain, kChain_eq, kChain2_eq, kChain3_t, kChain3_f, ev_isN, ev_notN, ev_not, kNot_eq, ev_and, kAnd_bl, kAnd2_t, kAnd2_f, ev_or, kOr_bl, kOr_lst, kOr2_t, kOr2_f, ev_ife, kIfe_eq, kIfe2_t, kIfe2_f, ev_sub, kSub_eq, kSub2_int, ev_slc, kSlc_eq, kSlc2_eq, kSlc3_eq, ev_calln, ev_bi, kBi_1, kBi_2, ev_isi, kIsi_eq, ev_isx, kIsx_eq, ev_me, kMe2_1, es_n, es_c, kEs_eq, st_asg, st_ret, st_if, kIf_eq, kIf2_t, kIf2_f, st_for, st_unp, st_expr, kExpr_eq, st_rais, st_pass, st_try, kTry_ok, st_set, st_fz, kFz_fz, kFz_no, kOwn_lst, kAsg_eq, kRet_eq, kSto_ok, kIsN_eq, kSeq_ok, Nat.reduceLeDiff, beq_tf, beq_ft, beq_tt, beq_ff, isNon_int, isNon_str, isNon_lst, isNon_tup, isNon_exc, isNon_bl, isNon_non, isOwn_exc, kUnp_2, kUnp_3, res_int, res_bl, res_str, res_lst, res_tup, res_non, nst_c, nst_v, nst_ov, nst_g, nst_tup, nst_lst, nst_bin, nst_neg, nst_cmp, nst_chain, nst_isN, nst_notN, nst_not, nst_and, nst_or, nst_ife, nst_sub, nst_slc, nst_rev, nst_call, nst_call1, nst_bi, nst_isi, nst_isx, nst_me, nst_pop, nst_popAt, nst_comp, nst_bad, isOwn_int, isOwn_bl, isOwn_str, isOwn_non, isOwn_tup, isOwn_lst, isOwn_own, decide_true, decide_false, truth_bl, if_true, if_false, Bool.false_eq_true, lockOf_zo, lockOf_zf, lockOf_zn, lockOf_s, lockOf_n, List.length_cons, List.length_nil, List.set_cons_zero, List.set_cons_succ, Nat.reduceAdd, Nat.reduceLT, ownsX_z, ownsX_s, ownsL_z, ownsL_s, Bool.not_true, Bool.not_false, outsE, bop_add, bop_sub, cop_gt, cop_ge, cop_lt, cop_le, bi_int, bi_intb, bi_abs, bi_lenL, bi_lenT, List.any_cons, List.any_nil, Bool.or_false, Bool.false_or, f1, b1, s_e, cop_eqS, h, cm, all_bl, ha]
      unfold numIn
      rw [if_neg h, ha]
      rfl
    | true =>
      by_cases hc : c = 48
      · subst hc
        by_cases hr0 : r = []
        · subst hr0
          simp -implicitDefEqProofs only [List.replicate, List.cons_append, List.nil_append, evSs_c, evSs_n, thenS_next, thenS_ret, thenS_brk, thenS_cont, thenS_ex, retF_ret, retF_ex, retF_next, R.bind_ok, R.bind_ex, R.of_some, getE_z, getE_s, getE_n, ev_c, ev_v, kVar_fz, kVar_ow, ev_g, kPure_some, kBool_some, ev_tup, ev_lst, ev_bin, kBin_eq, kBin2_eq, ev_cmp, kCmp_eq, kCmp2_eq, ev_chain, kChain_eq, kChain2_eq, kChain3_t, kChain3_f, ev_isN, ev_notN, ev_not, kNot_eq, ev_and, kAnd_bl, kAnd2_t, kAnd2_f, ev_or, kOr_bl, kOr_lst, kOr2_t, kOr2_f, ev_ife, kIfe_eq, kIfe2_t, kIfe2_f, ev_sub, kSub_eq, kSub2_int, ev_slc, kSlc_eq, kSlc2_eq, kSlc3_eq, ev_calln, ev_bi, kBi_1, kBi_2, ev_isi, kIsi_eq, ev_isx, kIsx_eq, ev_me, kMe2_1, es_n, es_c, kEs_eq, st_asg, st_ret, st_if, kIf_eq, kIf2_t, kIf2_f, st_for, st_unp, st_expr, kExpr_eq, st_rais, st_pass, st_try, kTry_ok, st_set, st_fz, kFz_fz, kFz_no, kOwn_lst, kAsg_eq, kRet_eq, kSto_ok, kIsN_eq, kSeq_ok, Nat.reduceLeDiff, beq_tf, beq_ft, beq_tt, beq_ff, isNon_int, isNon_str, isNon_lst, isNon_tup, isNon_exc, isNon_bl, isNon_non, isOwn_exc, kUnp_2, kUnp_3, res_int, res_bl, res_str, res_lst, res_tup, res_non, nst_c, nst_v, nst_ov, nst_g, nst_tup, nst_lst, nst_bin, nst_neg, nst_cmp, nst_chain, nst_isN, nst_notN, nst_not, nst_and, nst_or, nst_ife, nst_sub, nst_slc, nst_rev, nst_call, nst_call1, nst_bi, nst_isi, nst_isx, nst_me, nst_pop, nst_popAt, nst_comp, nst_bad, isOwn_int, isOwn_bl, isOwn_str, isOwn_non, isOwn_tup, isOwn_lst, isOwn_own, decide_true, decide_false, truth_bl, if_true, if_false, Bool.false_eq_true, lockOf_zo, lockOf_zf, lockOf_zn, lockOf_s, lockOf_n, List.length_cons, List.length_nil, List.set_cons_zero, List.set_cons_succ, Nat.reduceAdd, Nat.reduceLT, ownsX_z, ownsX_s, ownsL_z, ownsL_s, Bool.not_true, Bool.not_false, outsE, bop_add, bop_sub, cop_gt, cop_ge, cop_lt, cop_le, bi_int, bi_intb, bi_abs, bi_lenL, bi_lenT, List.any_cons, List.any_nil, Bool.or_false, Bool.false_or, f1, b1, s_e, s_0, cop_eqS, cop_neS, h, cm, all_bl, ha, sub_st 48 [] (by decide), int_dig ha h hlen]
          rfl
        · have h48 : ¬ (48 :: r = [48]) := by simp [hr0]
          simp -implicitDefEqProofs only [List.replicate, List.cons_append, List.nil_append, evSs_c, evSs_n, thenS_next, thenS_ret, thenS_brk, thenS_cont, thenS_ex, retF_ret, retF_ex, retF_next, R.bind_ok, R.bind_ex, R.of_some, getE_z, getE_s, getE_n, ev_c, ev_v, kVar_fz, kVar_ow, ev_g, kPure_some, kBool_some, ev_tup, ev_lst, ev_bin, kBin_eq, kBin2_eq, ev_cmp, kCmp_eq, kCmp2_eq, ev_chain, kChain_eq, kChain2_eq, kChain3_t, kChain3_f, ev_isN, ev_notN, ev_not, kNot_eq, ev_and, kAnd_bl, kAnd2_t, kAnd2_f, ev_or, kOr_bl, kOr_lst, kOr2_t, kOr2_f, ev_ife, kIfe_eq, kIfe2_t, kIfe2_f, ev_sub, kSub_eq, kSub2_int, ev_slc, kSlc_eq, kSlc2_eq, kSlc3_eq, ev_calln, ev_bi, kBi_1, kBi_2, ev_isi, kIsi_eq, ev_isx, kIsx_eq, ev_me, kMe2_1, es_n, es_c, kEs_eq, st_asg, st_ret, st_if, kIf_eq, kIf2_t, kIf2_f, st_for, st_unp, st_expr, kExpr_eq, st_rais, st_pass, st_try, kTry_ok, st_set, st_fz, kFz_fz, kFz_no, kOwn_lst, kAsg_eq, kRet_eq, kSto_ok, kIsN_eq, kSeq_ok, Nat.reduceLeDiff, beq_tf, beq_ft, beq_tt, beq_ff, isNon_int, isNon_str, isNon_lst, isNon_tup, isNon_exc, isNon_bl, isNon_non, isOwn_exc, kUnp_2, kUnp_3, res_int, res_bl, res_str, res_lst, res_tup, res_non, nst_c, nst_v, nst_ov, nst_g, nst_tup, nst_lst, nst_bin, nst_neg, nst_cmp, nst_chain, nst_isN, nst_notN, nst_not, nst_and, nst_or, nst_ife, nst_sub, nst_slc, nst_rev, nst_call, nst_call1, nst_bi, nst_isi, nst_isx, nst_me, nst_pop, nst_popAt, nst_comp, nst_bad, isOwn_int, isOwn_bl, isOwn_str, isOwn_non, isOwn_tup, isOwn_lst, isOwn_own, decide_true, decide_false, truth_bl, if_true, if_false, Bool.false_eq_true, lockOf_zo, lockOf_zf, lockOf_zn, lockOf_s, lockOf_n, List.length_cons, List.length_nil, List.set_cons_zero, List.set_cons_succ, Nat.reduceAdd, Nat.reduceLT, ownsX_z, ownsX_s, ownsL_z, ownsL_s, Bool.not_true, Bool.not_false, outsE, bop_add, bop_sub, cop_gt, cop_ge, cop_lt, cop_le, bi_int, bi_intb, bi_abs, bi_lenL, bi_lenT, List.any_cons, List.any_nil, Bool.or_false, Bool.false_or, f1, b1, s_e, s_0, cop_eqS, cop_neS, h, cm, all_bl, ha, sub_st 48 r hr, h48]
          unfold numIn
          rw [if_neg h, ha, if_pos rfl, if_pos ⟨rfl, h48⟩]
      · have h48 : ¬ ([c] = [48]) := by simp [hc]
        simp -implicitDefEqProofs only [List.replicate, List.cons_append, List.nil_append, evSs_c, evSs_n, thenS_next, thenS_ret, thenS_brk, thenS_cont, thenS_ex, retF_ret, retF_ex, retF_next, R.bind_ok, R.bind_ex, R.of_some, getE_z, getE_s, getE_n, ev_c, ev_v, kVar_fz, kVar_ow, ev_g, kPure_some, kBool_some, ev_tup, ev_lst, ev_bin, kBin_eq, kBin2_eq, ev_cmp, kCmp_eq, kCmp2_eq, ev_chain, kChain_eq, kChain2_eq, kChain3_t, kChain3_f, ev_isN, ev_notN, ev_not, kNot_eq, ev_and, kAnd_bl, kAnd2_t, kAnd2_f, ev_or, kOr_bl, kOr_lst, kOr2_t, kOr2_f, ev_ife, kIfe_eq, kIfe2_t, kIfe2_f, ev_sub, kSub_eq, kSub2_int, ev_slc, kSlc_eq, kSlc2_eq, kSlc3_eq, ev_calln, ev_bi, kBi_1, kBi_2, ev_isi, kIsi_eq, ev_isx, kIsx_eq, ev_me, kMe2_1, es_n, es_c, kEs_eq, st_asg, st_ret, st_if, kIf_eq, kIf2_t, kIf2_f, st_for, st_unp, st_expr, kExpr_eq, st_rais, st_pass, st_try, kTry_ok, st_set, st_fz, kFz_fz, kFz_no, kOwn_lst, kAsg_eq, kRet_eq, kSto_ok, kIsN_eq, kSeq_ok, Nat.reduceLeDiff, beq_tf, beq_ft, beq_tt, beq_ff, isNon_int, isNon_str, isNon_lst, isNon_tup, isNon_exc, isNon_bl, isNon_non, isOwn_exc, kUnp_2, kUnp_3, res_int, res_bl, res_str, res_lst, res_tup, res_non, nst_c, nst_v, nst_ov, nst_g, nst_tup, nst_lst, nst_bin, nst_neg, nst_cmp, nst_chain, nst_isN, nst_notN, nst_not, nst_and, nst_or, nst_ife, nst_sub, nst_slc, nst_rev, nst_call, nst_call1, nst_bi, nst_isi, nst_isx, nst_me, nst_pop, nst_popAt, nst_comp, nst_bad, isOwn_int, isOwn_bl, isOwn_str, isOwn_non, isOwn_tup, isOwn_lst, isOwn_own, decide_true, decide_false, truth_bl, if_true, if_false, Bool.false_eq_true, lockOf_zo, lockOf_zf, lockOf_zn, lockOf_s, lockOf_n, List.length_cons, List.length_nil, List.set_cons_zero, List.set_cons_succ, Nat.reduceAdd, Nat.reduceLT, ownsX_z, ownsX_s, ownsL_z, ownsL_s, Bool.not_true, Bool.not_false, outsE, bop_add, bop_sub, cop_gt, cop_ge, cop_lt, cop_le, bi_int, bi_intb, bi_abs, bi_lenL, bi_lenT, List.any_cons, List.any_nil, Bool.or_false, Bool.false_or, f1, b1, s_e, s_0, cop_eqS, cop_neS, h, cm, all_bl, ha, sub_st c r hr, h48, int_dig ha h hlen]
        unfold numIn
        rw [if_neg h, ha, if_pos rfl, if_neg (by simp [hc])]
end K90

set_option linter.all false
set_option Elab.async false
set_option maxRecDepth 100000
/-! P90c: pair_in, crowd_in, heard (own work; printed from P90c.tpl by exp.py). -/
namespace K90
open IV

theorem par_none {l acc : List Nat} (h : TL.par [32] acc l = none) : 32 ∉ l := by
  induction l generalizing acc with
  | nil => simp
  | cons c r ih =>
    unfold TL.par at h
    split at h
    · cases h
    · rename_i hp
      have hc : c ≠ 32 := fun e => hp (by subst e; simp [TL.pre])
      simp only [List.mem_cons, not_or]
      exact ⟨Ne.symm hc, ih h⟩
theorem par_some {l acc x y : List Nat} (h : TL.par [32] acc l = some (x, y)) : ∃ p, x = acc ++ p ∧ l = p ++ 32 :: y ∧ 32 ∉ p := by
  induction l generalizing acc with
  | nil => cases h
  | cons c r ih =>
    unfold TL.par at h
    split at h
    · rename_i hp
      have hc : c = 32 := by simpa [TL.pre] using hp
      subst hc
      simp at h
      exact ⟨[], by simp [h.1], by simp [h.2], by simp⟩
    · rename_i hp
      have hc : c ≠ 32 := fun e => hp (by subst e; simp [TL.pre])
      obtain ⟨p, h1, h2, h3⟩ := ih h
      exact ⟨c :: p, by rw [h1]; simp, by rw [h2]; rfl, by simp only [List.mem_cons, not_or]; exact ⟨Ne.symm hc, h3⟩⟩
/-- what pair_in makes of a text -/
def pairIn (l : List Nat) : D := match TL.par [32] [] l with
  | some (x, y) => if kindB x then (match numIn y with
    | .int n => if n = 0 then .non else .tup [st x, .int n]
    | _ => .non) else .non
  | none => .non
theorem me_par {l : List Nat} (h : l.length ≤ 1000) : meD .partition (st l) [st [32]] = (match TL.par [32] [] l with
    | some (x, y) => some (.tup [st x, st [32], st y])
    | none => some (.tup [st l, st [], st []])) := by
  show (if (([32] : List Nat).length != 0) && decide (l.length ≤ line) then _ else none) = _
  rw [decide_eq_true (Nat.le_trans h (by decide))]
  rfl
theorem cop_eqI (i j : Int) : cop .eq (.int i) (.int j) = some (decide (i = j)) := rfl
theorem isOwn_num (l : List Nat) : isOwn (numIn l) = false := by
  unfold numIn
  split
  · rfl
  · split
    · split <;> rfl
    · rfl
theorem numIn_cases (l : List Nat) : numIn l = .non ∨ ∃ n, numIn l = .int n := by
  unfold numIn
  split
  · exact .inl rfl
  · split
    · split
      · exact .inl rfl
      · exact .inr ⟨_, rfl⟩
    · exact .inl rfl
theorem c1 {k f : Nat} {a b d : D} {o : Env} (ha : entOf [] a = some (.fz a)) (hno : isOwn a = false) (hc : callF T k f [.fz a] = .ok (d, o)) (env : Env) : callD (callF T k) f [a] env = .ok (d, env) := by
  have e1 : nodupOwn [a] [] = true := by cases a <;> first | rfl | cases hno
  have e2 : entsOf env [a] = some [.fz a] := by cases a <;> first | rfl | cases hno
  rw [callD_ok e1 e2 hc]
  cases o <;> cases a <;> first | rfl | cases hno
theorem pair_in_ok (k : Nat) {l : List Nat} (hlen : l.length ≤ 600) : callF T (k + 2) 3 [.fz (st l)] = .ok (pairIn l, [.no]) := by
  rw [callF_eq (k + 1) (F := f3) rfl rfl rfl]
  have hmt : meTy .partition (st l) = true := rfl
  cases hp : TL.par [32] [] l with
  | none =>
    have hm := me_par (l := l) (by omega)
    rw [hp] at hm
    have cn := fun env => c1 (a := st []) (b := .non) rfl rfl (number_in_ok k (l := []) (by decide)) env
    simp -implicitDefEqProofs only [List.replicate, List.cons_append, List.nil_append, evSs_c, evSs_n, thenS_next, thenS_ret, thenS_brk, thenS_cont, thenS_ex, retF_ret, retF_ex, retF_next, R.bind_ok, R.bind_ex, R.of_some, getE_z, getE_s, getE_n, ev_c, ev_v, kVar_fz, kVar_ow, ev_g, kPure_some, kBool_some, ev_tup, ev_lst, ev_bin, kBin_eq, kBin2_eq, ev_cmp, kCmp_eq, kCmp2_eq, ev_chain, kChain_eq, kChain2_eq, kChain3_t, kChain3_f, ev_isN, ev_notN, ev_not, kNot_eq, ev_and, kAnd_bl, kAnd2_t, kAnd2_f, ev_or, kOr_bl, kOr_lst, kOr2_t, kOr2_f, ev_ife, kIfe_eq, kIfe2_t, kIfe2_f, ev_sub, kSub_eq, kSub2_int, ev_slc, kSlc_eq, kSlc2_eq, kSlc3_eq, ev_calln, ev_bi, kBi_1, kBi_2, ev_isi, kIsi_eq, ev_isx, kIsx_eq, ev_me, kMe2_1, es_n, es_c, kEs_eq, st_asg, st_ret, st_if, kIf_eq, kIf2_t, kIf2_f, st_for, st_unp, st_expr, kExpr_eq, st_rais, st_pass, st_try, kTry_ok, st_set, st_fz, kFz_fz, kFz_no, kOwn_lst, kAsg_eq, kRet_eq, kSto_ok, kIsN_eq, kSeq_ok, Nat.reduceLeDiff, beq_tf, beq_ft, beq_tt, beq_ff, isNon_int, isNon_str, isNon_lst, isNon_tup, isNon_exc, isNon_bl, isNon_non, isOwn_exc, kUnp_2, kUnp_3, res_int, res_bl, res_str, res_lst, res_tup, res_non, nst_c, nst_v, nst_ov, nst_g, nst_tup, nst_lst, nst_bin, nst_neg, nst_cmp, nst_chain, nst_isN, nst_notN, nst_not, nst_and, nst_or, nst_ife, nst_sub, nst_slc, nst_rev, nst_call, nst_call1, nst_bi, nst_isi, nst_isx, nst_me, nst_pop, nst_popAt, nst_comp, nst_bad, isOwn_int, isOwn_bl, isOwn_str, isOwn_non, isOwn_tup, isOwn_lst, isOwn_own, decide_true, decide_false, truth_bl, if_true, if_false, Bool.false_eq_true, lockOf_zo, lockOf_zf, lockOf_zn, lockOf_s, lockOf_n, List.length_cons, List.length_nil, List.set_cons_zero, List.set_cons_succ, Nat.reduceAdd, Nat.reduceLT, ownsX_z, ownsX_s, ownsL_z, ownsL_s, Bool.not_true, Bool.not_false, outsE, bop_add, bop_sub, cop_gt, cop_ge, cop_lt, cop_le, bi_int, bi_intb, bi_abs, bi_lenL, bi_lenT, List.any_cons, List.any_nil, Bool.or_false, Bool.false_or, f3, b3, gl4, kMe_eq, hmt, hm, kCall_1 T (callF T (k + 1)) (f := 1) (F := f1) rfl rfl, cn, isOwn_num, s_e, cop_eqS]
    simp only [pairIn, hp]
  | some xy =>
    obtain ⟨x, y⟩ := xy
    obtain ⟨p, h1, h2, h3⟩ := par_some hp
    rw [List.nil_append] at h1
    subst h1
    have hl : x.length + 1 + y.length ≤ 600 := by rw [h2] at hlen; simp at hlen; omega
    have hm := me_par (l := l) (by omega)
    rw [hp] at hm
    have cn := fun env => c1 (a := st y) (b := .non) rfl rfl (number_in_ok k (l := y) (by omega)) env
    have ck := fun env => c1 (a := st x) (b := .non) rfl rfl (is_kind_ok k (l := x) (by omega)) env
    have hne : ¬ (([32] : List Nat) = []) := by simp
    have hb := isOwn_num y
    cases hk : kindB x with
    | false =>
      rw [hk] at ck
      simp -implicitDefEqProofs only [List.replicate, List.cons_append, List.nil_append, evSs_c, evSs_n, thenS_next, thenS_ret, thenS_brk, thenS_cont, thenS_ex, retF_ret, retF_ex, retF_next, R.bind_ok, R.bind_ex, R.of_some, getE_z, getE_s, getE_n, ev_c, ev_v, kVar_fz, kVar_ow, ev_g, kPure_some, kBool_some, ev_tup, ev_lst, ev_bin, kBin_eq, kBin2_eq, ev_cmp, kCmp_eq, kCmp2_eq, ev_chain, kChain_eq, kChain2_eq, kChain3_t, kChain3_f, ev_isN, ev_notN, ev_not, kNot_eq, ev_and, kAnd_bl, kAnd2_t, kAnd2_f, ev_or, kOr_bl, kOr_lst, kOr2_t, kOr2_f, ev_ife, kIfe_eq, kIfe2_t, kIfe2_f, ev_sub, kSub_eq, kSub2_int, ev_slc, kSlc_eq, kSlc2_eq, kSlc3_eq, ev_calln, ev_bi, kBi_1, kBi_2, ev_isi, kIsi_eq, ev_isx, kIsx_eq, ev_me, kMe2_1, es_n, es_c, kEs_eq, st_asg, st_ret, st_if, kIf_eq, kIf2_t, kIf2_f, st_for, st_unp, st_expr, kExpr_eq, st_rais, st_pass, st_try, kTry_ok, st_set, st_fz, kFz_fz, kFz_no, kOwn_lst, kAsg_eq, kRet_eq, kSto_ok, kIsN_eq, kSeq_ok, Nat.reduceLeDiff, beq_tf, beq_ft, beq_tt, beq_ff, isNon_int, isNon_str, isNon_lst, isNon_tup, isNon_exc, isNon_bl, isNon_non, isOwn_exc, kUnp_2, kUnp_3, res_int, res_bl, res_str, res_lst, res_tup, res_non, nst_c, nst_v, nst_ov, nst_g, nst_tup, nst_lst, nst_bin, nst_neg, nst_cmp, nst_chain, nst_isN, nst_notN, nst_not, nst_and, nst_or, nst_ife, nst_sub, nst_slc, nst_rev, nst_call, nst_call1, nst_bi, nst_isi, nst_isx, nst_me, nst_pop, nst_popAt, nst_comp, nst_bad, isOwn_int, isOwn_bl, isOwn_str, isOwn_non, isOwn_tup, isOwn_lst, isOwn_own, decide_true, decide_false, truth_bl, if_true, if_false, Bool.false_eq_true, lockOf_zo, lockOf_zf, lockOf_zn, lockOf_s, lockOf_n, List.length_cons, List.length_nil, List.set_cons_zero, List.set_cons_succ, Nat.reduceAdd, Nat.reduceLT, ownsX_z, ownsX_s, ownsL_z, ownsL_s, Bool.not_true, Bool.not_false, outsE, bop_add, bop_sub, cop_gt, cop_ge, cop_lt, cop_le, bi_int, bi_intb, bi_abs, bi_lenL, bi_lenT, List.any_cons, List.any_nil, Bool.or_false, Bool.false_or, f3, b3, gl4, kMe_eq, hmt, hm, kCall_1 T (callF T (k + 1)) (f := 1) (F := f1) rfl rfl, kCall_1 T (callF T (k + 1)) (f := 0) (F := f0) rfl rfl, cn, ck, hb, s_e, cop_eqS, hne]
      simp only [pairIn, hp, hk]
      rfl
    | true =>
      rw [hk] at ck
      rcases numIn_cases y with hn | ⟨n, hn⟩
      · rw [hn] at cn
        simp -implicitDefEqProofs only [List.replicate, List.cons_append, List.nil_append, evSs_c, evSs_n, thenS_next, thenS_ret, thenS_brk, thenS_cont, thenS_ex, retF_ret, retF_ex, retF_next, R.bind_ok, R.bind_ex, R.of_some, getE_z, getE_s, getE_n, ev_c, ev_v, kVar_fz, kVar_ow, ev_g, kPure_some, kBool_some, ev_tup, ev_lst, ev_bin, kBin_eq, kBin2_eq, ev_cmp, kCmp_eq, kCmp2_eq, ev_chain, kChain_eq, kChain2_eq, kChain3_t, kChain3_f, ev_isN, ev_notN, ev_not, kNot_eq, ev_and, kAnd_bl, kAnd2_t, kAnd2_f, ev_or, kOr_bl, kOr_lst, kOr2_t, kOr2_f, ev_ife, kIfe_eq, kIfe2_t, kIfe2_f, ev_sub, kSub_eq, kSub2_int, ev_slc, kSlc_eq, kSlc2_eq, kSlc3_eq, ev_calln, ev_bi, kBi_1, kBi_2, ev_isi, kIsi_eq, ev_isx, kIsx_eq, ev_me, kMe2_1, es_n, es_c, kEs_eq, st_asg, st_ret, st_if, kIf_eq, kIf2_t, kIf2_f, st_for, st_unp, st_expr, kExpr_eq, st_rais, st_pass, st_try, kTry_ok, st_set, st_fz, kFz_fz, kFz_no, kOwn_lst, kAsg_eq, kRet_eq, kSto_ok, kIsN_eq, kSeq_ok, Nat.reduceLeDiff, beq_tf, beq_ft, beq_tt, beq_ff, isNon_int, isNon_str, isNon_lst, isNon_tup, isNon_exc, isNon_bl, isNon_non, isOwn_exc, kUnp_2, kUnp_3, res_int, res_bl, res_str, res_lst, res_tup, res_non, nst_c, nst_v, nst_ov, nst_g, nst_tup, nst_lst, nst_bin, nst_neg, nst_cmp, nst_chain, nst_isN, nst_notN, nst_not, nst_and, nst_or, nst_ife, nst_sub, nst_slc, nst_rev, nst_call, nst_call1, nst_bi, nst_isi, nst_isx, nst_me, nst_pop, nst_popAt, nst_comp, nst_bad, isOwn_int, isOwn_bl, isOwn_str, isOwn_non, isOwn_tup, isOwn_lst, isOwn_own, decide_true, decide_false, truth_bl, if_true, if_false, Bool.false_eq_true, lockOf_zo, lockOf_zf, lockOf_zn, lockOf_s, lockOf_n, List.length_cons, List.length_nil, List.set_cons_zero, List.set_cons_succ, Nat.reduceAdd, Nat.reduceLT, ownsX_z, ownsX_s, ownsL_z, ownsL_s, Bool.not_true, Bool.not_false, outsE, bop_add, bop_sub, cop_gt, cop_ge, cop_lt, cop_le, bi_int, bi_intb, bi_abs, bi_lenL, bi_lenT, List.any_cons, List.any_nil, Bool.or_false, Bool.false_or, f3, b3, gl4, kMe_eq, hmt, hm, kCall_1 T (callF T (k + 1)) (f := 1) (F := f1) rfl rfl, kCall_1 T (callF T (k + 1)) (f := 0) (F := f0) rfl rfl, cn, ck, hn, s_e, cop_eqS, hne, isNon_non, beq_self_eq_true]
        simp only [pairIn, hp, hk, hn]
        rfl
      · rw [hn] at cn
        by_cases h0 : n = 0
        · subst h0
          simp -implicitDefEqProofs only [List.replicate, List.cons_append, List.nil_append, evSs_c, evSs_n, thenS_next, thenS_ret, thenS_brk, thenS_cont, thenS_ex, retF_ret, retF_ex, retF_next, R.bind_ok, R.bind_ex, R.of_some, getE_z, getE_s, getE_n, ev_c, ev_v, kVar_fz, kVar_ow, ev_g, kPure_some, kBool_some, ev_tup, ev_lst, ev_bin, kBin_eq, kBin2_eq, ev_cmp, kCmp_eq, kCmp2_eq, ev_chain, kChain_eq, kChain2_eq, kChain3_t, kChain3_f, ev_isN, ev_notN, ev_not, kNot_eq, ev_and, kAnd_bl, kAnd2_t, kAnd2_f, ev_or, kOr_bl, kOr_lst, kOr2_t, kOr2_f, ev_ife, kIfe_eq, kIfe2_t, kIfe2_f, ev_sub, kSub_eq, kSub2_int, ev_slc, kSlc_eq, kSlc2_eq, kSlc3_eq, ev_calln, ev_bi, kBi_1, kBi_2, ev_isi, kIsi_eq, ev_isx, kIsx_eq, ev_me, kMe2_1, es_n, es_c, kEs_eq, st_asg, st_ret, st_if, kIf_eq, kIf2_t, kIf2_f, st_for, st_unp, st_expr, kExpr_eq, st_rais, st_pass, st_try, kTry_ok, st_set, st_fz, kFz_fz, kFz_no, kOwn_lst, kAsg_eq, kRet_eq, kSto_ok, kIsN_eq, kSeq_ok, Nat.reduceLeDiff, beq_tf, beq_ft, beq_tt, beq_ff, isNon_int, isNon_str, isNon_lst, isNon_tup, isNon_exc, isNon_bl, isNon_non, isOwn_exc, kUnp_2, kUnp_3, res_int, res_bl, res_str, res_lst, res_tup, res_non, nst_c, nst_v, nst_ov, nst_g, nst_tup, nst_lst, nst_bin, nst_neg, nst_cmp, nst_chain, nst_isN, nst_notN, nst_not, nst_and, nst_or, nst_ife, nst_sub, nst_slc, nst_rev, nst_call, nst_call1, nst_bi, nst_isi, nst_isx, nst_me, nst_pop, nst_popAt, nst_comp, nst_bad, isOwn_int, isOwn_bl, isOwn_str, isOwn_non, isOwn_tup, isOwn_lst, isOwn_own, decide_true, decide_false, truth_bl, if_true, if_false, Bool.false_eq_true, lockOf_zo, lockOf_zf, lockOf_zn, lockOf_s, lockOf_n, List.length_cons, List.length_nil, List.set_cons_zero, List.set_cons_succ, Nat.reduceAdd, Nat.reduceLT, ownsX_z, ownsX_s, ownsL_z, ownsL_s, Bool.not_true, Bool.not_false, outsE, bop_add, bop_sub, cop_gt, cop_ge, cop_lt, cop_le, bi_int, bi_intb, bi_abs, bi_lenL, bi_lenT, List.any_cons, List.any_nil, Bool.or_false, Bool.false_or, f3, b3, gl4, kMe_eq, hmt, hm, kCall_1 T (callF T (k + 1)) (f := 1) (F := f1) rfl rfl, kCall_1 T (callF T (k + 1)) (f := 0) (F := f0) rfl rfl, cn, ck, hn, s_e, cop_eqS, cop_eqI, hne, isNon_int]
          simp only [pairIn, hp, hk, hn]
          rfl
        · simp -implicitDefEqProofs only [List.replicate, List.cons_append, List.nil_append, evSs_c, evSs_n, thenS_next, thenS_ret, thenS_brk, thenS_cont, thenS_ex, retF_ret, retF_ex, retF_next, R.bind_ok, R.bind_ex, R.of_some, getE_z, getE_s, getE_n, ev_c, ev_v, kVar_fz, kVar_ow, ev_g, kPure_some, kBool_some, ev_tup, ev_lst, ev_bin, kBin_eq, kBin2_eq, ev_cmp, kCmp_eq, kCmp2_eq, ev_chain, kChain_eq, kChain2_eq, kChain3_t, kChain3_f, ev_isN, ev_notN, ev_not, kNot_eq, ev_and, kAnd_bl, kAnd2_t, kAnd2_f, ev_or, kOr_bl, kOr_lst, kOr2_t, kOr2_f, ev_ife, kIfe_eq, kIfe2_t, kIfe2_f, ev_sub, kSub_eq, kSub2_int, ev_slc, kSlc_eq, kSlc2_eq, kSlc3_eq, ev_calln, ev_bi, kBi_1, kBi_2, ev_isi, kIsi_eq, ev_isx, kIsx_eq, ev_me, kMe2_1, es_n, es_c, kEs_eq, st_asg, st_ret, st_if, kIf_eq, kIf2_t, kIf2_f, st_for, st_unp, st_expr, kExpr_eq, st_rais, st_pass, st_try, kTry_ok, st_set, st_fz, kFz_fz, kFz_no, kOwn_lst, kAsg_eq, kRet_eq, kSto_ok, kIsN_eq, kSeq_ok, Nat.reduceLeDiff, beq_tf, beq_ft, beq_tt, beq_ff, isNon_int, isNon_str, isNon_lst, isNon_tup, isNon_exc, isNon_bl, isNon_non, isOwn_exc, kUnp_2, kUnp_3, res_int, res_bl, res_str, res_lst, res_tup, res_non, nst_c, nst_v, nst_ov, nst_g, nst_tup, nst_lst, nst_bin, nst_neg, nst_cmp, nst_chain, nst_isN, nst_notN, nst_not, nst_and, nst_or, nst_ife, nst_sub, nst_slc, nst_rev, nst_call, nst_call1, nst_bi, nst_isi, nst_isx, nst_me, nst_pop, nst_popAt, nst_comp, nst_bad, isOwn_int, isOwn_bl, isOwn_str, isOwn_non, isOwn_tup, isOwn_lst, isOwn_own, decide_true, decide_false, truth_bl, if_true, if_false, Bool.false_eq_true, lockOf_zo, lockOf_zf, lockOf_zn, lockOf_s, lockOf_n, List.length_cons, List.length_nil, List.set_cons_zero, List.set_cons_succ, Nat.reduceAdd, Nat.reduceLT, ownsX_z, ownsX_s, ownsL_z, ownsL_s, Bool.not_true, Bool.not_false, outsE, bop_add, bop_sub, cop_gt, cop_ge, cop_lt, cop_le, bi_int, bi_intb, bi_abs, bi_lenL, bi_lenT, List.any_cons, List.any_nil, Bool.or_false, Bool.false_or, f3, b3, gl4, kMe_eq, hmt, hm, kCall_1 T (callF T (k + 1)) (f := 1) (F := f1) rfl rfl, kCall_1 T (callF T (k + 1)) (f := 0) (F := f0) rfl rfl, cn, ck, hn, s_e, cop_eqS, cop_eqI, hne, isNon_int, h0]
          simp only [pairIn, hp, hk, hn, h0, if_true, if_false]
end K90

set_option linter.all false
set_option Elab.async false
set_option maxRecDepth 100000
/-! P90d: crowd_in, heard (own work; printed from P90d.tpl by exp.py). -/
namespace K90
open IV

abbrev CM : List Nat := [44, 32]
abbrev parts (l : List Nat) : List (List Nat) := TL.spl CM 0 [] l
theorem spl_sum : ∀ (n : Nat) (l acc : List Nat), l.length ≤ n → ((TL.spl CM 0 acc l).map fun p => p.length + 2).sum ≤ acc.length + l.length + 2
  | n, [], acc, _ => by simp [TL.spl]
  | n + 1, c :: r, acc, h => by
    unfold TL.spl
    split
    · rename_i hp
      match r, hp with
      | [], hp => simp [TL.pre] at hp
      | d :: r', hp =>
        show ((acc :: TL.spl CM 1 [] (d :: r')).map fun p => p.length + 2).sum ≤ _
        have e : TL.spl CM 1 [] (d :: r') = TL.spl CM 0 [] r' := by rw [TL.spl]
        have ih := spl_sum n r' [] (by simp at h; omega)
        rw [e, List.map_cons, List.sum_cons]
        simp at ih ⊢
        omega
    · have ih := spl_sum n r (acc ++ [c]) (by simp at h; omega)
      simp at ih ⊢
      omega
theorem sum_ge {α : Type} (f : α → Nat) : ∀ (l : List α) (x : α), x ∈ l → f x ≤ (l.map f).sum
  | y :: l, x, h => by
    rw [List.map_cons, List.sum_cons]
    rcases List.mem_cons.mp h with rfl | h
    · omega
    · have := sum_ge f l x h; omega
theorem sum_le_mul {α : Type} (f : α → Nat) (c : Nat) : ∀ (l : List α), (∀ x ∈ l, c ≤ f x) → l.length * c ≤ (l.map f).sum
  | [], _ => by simp
  | y :: l, h => by
    have := sum_le_mul f c l fun x hx => h x (List.mem_cons_of_mem _ hx)
    have := h y List.mem_cons_self
    rw [List.map_cons, List.sum_cons, List.length_cons, Nat.add_mul, Nat.one_mul]
    omega
theorem part_len {l p : List Nat} (h : p ∈ parts l) : p.length ≤ l.length := by
  have h1 : ((parts l).map fun p => p.length + 2).sum ≤ 0 + l.length + 2 := spl_sum l.length l [] (Nat.le_refl _)
  have h2 := sum_ge (fun p : List Nat => p.length + 2) (parts l) p h
  simp at h1 h2
  omega
theorem parts_len (l : List Nat) : (parts l).length ≤ l.length + 2 := by
  have h1 : ((parts l).map fun p => p.length + 2).sum ≤ 0 + l.length + 2 := spl_sum l.length l [] (Nat.le_refl _)
  have h2 := sum_le_mul (fun p : List Nat => p.length + 2) 2 (parts l) (fun _ _ => by omega)
  simp at h1 h2
  omega
theorem parts_few {l : List Nat} (hl : l.length ≤ 300) (h : ∀ p ∈ parts l, 3 ≤ p.length) : (parts l).length < 64 := by
  have h1 : ((parts l).map fun p => p.length + 2).sum ≤ 0 + l.length + 2 := spl_sum l.length l [] (Nat.le_refl _)
  have h2 := sum_le_mul (fun p : List Nat => p.length + 2) 5 (parts l) (fun p hp => by have := h p hp; omega)
  simp at h1 h2
  omega
theorem me_spl {l : List Nat} (h : l.length ≤ 1000) : meD .split (st l) [st CM] = some (.lst ((parts l).map st)) := by
  show (if ((CM.length != 0) && decide (l.length + 2 ≤ line) && small8 ⟨⟨CM⟩⟩) then _ else none) = _
  rw [decide_eq_true (Nat.le_trans (show l.length + 2 ≤ 1002 by omega) (by decide))]
  rfl
def signs (d : D) : List Nat := match d with
  | .str s => s.cps.toList
  | _ => []
def okP (p : List Nat) : Bool := !isNon (pairIn p)
def name (p : List Nat) : List Nat := match TL.par [32] [] p with
  | some (x, _) => x
  | none => []
theorem okP_tup {p : List Nat} (h : okP p = true) : ∃ n, pairIn p = .tup [st (name p), .int n] ∧ kindB (name p) = true ∧ 3 ≤ p.length := by
  unfold okP pairIn at h
  cases hp : TL.par [32] [] p with
  | none => rw [hp] at h; cases h
  | some xy =>
    obtain ⟨x, y⟩ := xy
    rw [hp] at h
    simp only at h
    cases hk : kindB x with
    | false => rw [hk] at h; cases h
    | true =>
      rw [hk] at h
      simp only [if_true] at h
      rcases numIn_cases y with hn | ⟨n, hn⟩
      · rw [hn] at h; cases h
      · rw [hn] at h
        simp only at h
        split at h
        · cases h
        · rename_i h0
          refine ⟨n, ?_, ?_, ?_⟩
          · unfold pairIn name; simp only [hp, hk, hn, if_true, h0, if_false]
          · unfold name; rw [hp]; exact hk
          · obtain ⟨q, e1, e2, _⟩ := par_some hp
            rw [List.nil_append] at e1
            subst e1
            have hx : x ≠ [] := by rintro rfl; cases hk
            have hy : y ≠ [] := by rintro rfl; cases hn
            rw [e2]
            have := List.length_pos_iff.mpr hx
            have := List.length_pos_iff.mpr hy
            simp; omega
theorem okP_not {p : List Nat} (h : okP p = false) : pairIn p = .non := by
  unfold okP at h
  cases e : pairIn p with
  | non => rfl
  | _ => rw [e] at h; cases h
theorem pairIn_no (p : List Nat) : isOwn (pairIn p) = false := by
  cases h : okP p with
  | true => obtain ⟨n, e, _⟩ := okP_tup h; rw [e]; rfl
  | false => rw [okP_not h]; rfl
theorem let_ok {l : List Nat} (h : kindB l = true) : PySem.PyData.strOk ⟨⟨l⟩⟩ = true := by
  unfold kindB at h
  rw [Bool.and_eq_true] at h
  show (Array.mk l).all (fun c => decide (c < 0x110000)) = true
  rw [← Array.all_toList, List.all_eq_true]
  intro c hc
  have := List.all_eq_true.mp h.2 c hc
  simp [LET] at this ⊢
  omega
theorem plain_pairs : ∀ ps : List (List Nat), plainDs 58 (ps.map pairIn) = true
  | [] => rfl
  | p :: ps => by
    rw [List.map_cons]
    show (plainD 58 (pairIn p) && plainDs 58 (ps.map pairIn)) = true
    rw [plain_pairs ps, Bool.and_true]
    cases h : okP p with
    | true =>
      obtain ⟨n, e, h2, _⟩ := okP_tup h
      rw [e]
      show (PySem.PyData.strOk ⟨⟨name p⟩⟩ && (true && true)) = true
      rw [let_ok h2]; rfl
    | false => rw [okP_not h]; rfl
theorem in_pairs : ∀ ps : List (List Nat), inDs .non (ps.map pairIn) = !(ps.all okP)
  | [] => rfl
  | p :: ps => by
    rw [List.map_cons, List.all_cons]
    show (deq (pairIn p) .non || inDs .non (ps.map pairIn)) = _
    rw [in_pairs ps]
    cases h : okP p with
    | true => obtain ⟨n, e, _⟩ := okP_tup h; rw [e]; simp [deq]
    | false => rw [okP_not h]; rfl
theorem isin_pairs (ps : List (List Nat)) : cop .isin .non (.lst (ps.map pairIn)) = some (!(ps.all okP)) := by
  show (if (flat .non && (ps.map pairIn).all flat) || (plainD 58 .non && plainDs 58 (ps.map pairIn)) then some (inDs .non (ps.map pairIn)) else none) = _
  rw [plain_pairs, in_pairs]
  rw [if_pos (by simp [plainD])]
/-! ### sorted and once is rising -/
def rise : List (List Nat) → Bool
  | [] => true
  | [_] => true
  | a :: b :: r => decide (a < b) && rise (b :: r)
abbrev S (l : List Nat) : PySem.Str := ⟨⟨l⟩⟩
theorem leS_S (a b : List Nat) : leS (S a) (S b) = !decide (b < a) := rfl
theorem rise_pw : ∀ {l : List (List Nat)}, rise l = true → l.Pairwise (· < ·)
  | [], _ => .nil
  | [x], _ => by simp
  | x :: y :: r, h => by
    have h' : (decide (x < y) && rise (y :: r)) = true := h
    rw [Bool.and_eq_true, decide_eq_true_eq] at h'
    have ih := rise_pw h'.2
    rw [List.pairwise_cons]
    refine ⟨fun z hz => ?_, ih⟩
    rcases List.mem_cons.mp hz with rfl | hz
    · exact h'.1
    · exact List.lt_trans h'.1 ((List.pairwise_cons.mp ih).1 z hz)
theorem pw_rise : ∀ {l : List (List Nat)}, l.Pairwise (· < ·) → rise l = true
  | [], _ => rfl
  | [x], _ => rfl
  | x :: y :: r, h => by
    show (decide (x < y) && rise (y :: r)) = true
    rw [List.pairwise_cons] at h
    rw [pw_rise h.2, decide_eq_true (h.1 y List.mem_cons_self)]
    rfl
theorem lt_irr (l : List Nat) : ¬ l < l := List.lt_irrefl l
theorem S_inj {a b : List Nat} (h : S a = S b) : a = b := by cases h; rfl
theorem rise_iff (l : List (List Nat)) : l.map S = isort leS (once (l.map S)) ↔ rise l = true := by
  constructor
  · intro h
    have nd : (l.map S).Nodup := by
      rw [h]
      exact (isort_perm leS _).nodup_iff.mpr once_nd
    have so : (l.map S).Pairwise (fun a b => leS a b = true) := by
      rw [h]
      exact isort_sorted leS_tot leS_tr _
    refine pw_rise ?_
    have h1 := List.pairwise_map.mp so
    have h2 := List.pairwise_map.mp (show (l.map S).Pairwise (· ≠ ·) from nd)
    refine List.Pairwise.imp₂ (fun {a b} (p : leS (S a) (S b) = true) (q : S a ≠ S b) => ?_) h1 h2
    rw [leS_S] at p
    have hab : ¬ b < a := by simpa using p
    have ha : leS (S b) (S a) = false := by
      cases e : leS (S b) (S a) with
      | false => rfl
      | true => exact absurd (leS_anti _ _ (by rw [leS_S]; exact p) e) q
    rw [leS_S] at ha
    simpa using ha
  · intro h
    have pw := rise_pw h
    have nd : (l.map S).Nodup := List.pairwise_map.mpr (pw.imp fun {a b} (hab : a < b) => fun e => by
      have := S_inj e
      subst this
      exact lt_irr _ hab)
    have so : (l.map S).Pairwise (fun a b => leS a b = true) := List.pairwise_map.mpr (pw.imp fun {a b} (hab : a < b) => by
      rw [leS_S]
      have : ¬ b < a := fun q => lt_irr _ (List.lt_trans hab q)
      simp [this])
    have e1 : (l.map S).Perm (once (l.map S)) := perm_once nd fun x => Iff.rfl
    exact isort_uniq leS_tot leS_tr leS_anti e1 so
theorem dStrs_map : ∀ l : List (List Nat), dStrs (l.map st) = some (l.map S)
  | [] => rfl
  | a :: l => by
    rw [List.map_cons]
    show (dStrs (l.map st)).map (S a :: ·) = _
    rw [dStrs_map l]
    rfl
theorem sset_names {l : List (List Nat)} (h : l.length < 64) : biD .sset [.lst (l.map st)] = some (.lst ((isort leS (once (l.map S))).map .str)) := by
  show (sset (l.map st)).map D.lst = _
  unfold sset
  rw [if_pos (by simpa using h), dStrs_map]
  rfl
theorem deqs_str : ∀ a b : List PySem.Str, deqs (a.map .str) (b.map .str) = decide (a = b)
  | [], [] => rfl
  | [], _ :: _ => rfl
  | _ :: _, [] => rfl
  | x :: a, y :: b => by
    rw [List.map_cons, List.map_cons]
    show ((x == y) && deqs (a.map .str) (b.map .str)) = _
    rw [deqs_str a b, Bool.eq_iff_iff]
    simp
theorem plain_str {n : Nat} : ∀ {a : List PySem.Str}, (∀ s ∈ a, PySem.PyData.strOk s = true) → plainDs n (a.map .str) = true
  | [], _ => rfl
  | s :: a, h => by
    rw [List.map_cons]
    show (PySem.PyData.strOk s && plainDs n (a.map .str)) = true
    rw [h s List.mem_cons_self, plain_str fun t ht => h t (List.mem_cons_of_mem _ ht)]
    rfl
theorem map_st (l : List (List Nat)) : l.map st = (l.map S).map D.str := by rw [List.map_map]; rfl
theorem ne_names {l : List (List Nat)} (hk : ∀ a ∈ l, kindB a = true) : cop .ne (.lst (l.map st)) (.lst ((isort leS (once (l.map S))).map .str)) = some (!rise l) := by
  have h1 : ∀ s ∈ l.map S, PySem.PyData.strOk s = true := fun s hs => by
    obtain ⟨a, ha, rfl⟩ := List.mem_map.mp hs
    exact let_ok (hk a ha)
  have h2 : ∀ s ∈ isort leS (once (l.map S)), PySem.PyData.strOk s = true := fun s hs => h1 s (once_mem.mp ((isort_perm leS _).mem_iff.mp hs))
  show (if flat2 (.lst (l.map st)) (.lst ((isort leS (once (l.map S))).map .str)) || (plainDs 59 (l.map st) && plainDs 59 ((isort leS (once (l.map S))).map .str)) then some (!deqs (l.map st) ((isort leS (once (l.map S))).map .str)) else none) = _
  rw [map_st, plain_str h1, plain_str h2, if_pos (by simp), deqs_str]
  congr 2
  rw [Bool.eq_iff_iff, decide_eq_true_eq]
  exact rise_iff l
end K90

set_option linter.all false
set_option Elab.async false
set_option maxRecDepth 100000
/-! P90e: crowd_in, heard (own work; printed from P90e.tpl by exp.py). -/
namespace K90
open IV

/-- what a crowd's text tells -/
def crowdIn (l : List Nat) : Option (List D) := if l = [45] then some [] else if (parts l).all okP && rise ((parts l).map name) then some ((parts l).map pairIn) else none
theorem s_dash : D.str "-" = st [45] := rfl
theorem getE_set {env : Env} {i : Nat} (e : Ent) (h : i < env.length) : getE (env.set i e) i = e := by
  unfold getE List.getD
  rw [List.getElem?_set_self h]; rfl
theorem fst_of {p : List Nat} (h : okP p = true) : (match pairIn p with
    | .tup [a, _] => a
    | _ => .non) = st (name p) := by
  obtain ⟨n, e, _⟩ := okP_tup h
  rw [e]
theorem crowd_in_ok (k : Nat) {l : List Nat} (hlen : l.length ≤ 300) : callF T (k + 3) 4 [.fz (st l)] = match crowdIn l with
    | some ds => .ok (.tup ds, [.no])
    | none => .ex 0 [] [] := by
  rw [callF_eq (k + 2) (F := f4) rfl rfl rfl]
  by_cases h45 : l = [45]
  · subst h45
    simp -implicitDefEqProofs only [List.replicate, List.cons_append, List.nil_append, evSs_c, evSs_n, thenS_next, thenS_ret, thenS_brk, thenS_cont, thenS_ex, retF_ret, retF_ex, retF_next, R.bind_ok, R.bind_ex, R.of_some, getE_z, getE_s, getE_n, ev_c, ev_v, kVar_fz, kVar_ow, ev_g, kPure_some, kBool_some, ev_tup, ev_lst, ev_bin, kBin_eq, kBin2_eq, ev_cmp, kCmp_eq, kCmp2_eq, ev_chain, kChain_eq, kChain2_eq, kChain3_t, kChain3_f, ev_isN, ev_notN, ev_not, kNot_eq, ev_and, kAnd_bl, kAnd2_t, kAnd2_f, ev_or, kOr_bl, kOr_lst, kOr2_t, kOr2_f, ev_ife, kIfe_eq, kIfe2_t, kIfe2_f, ev_sub, kSub_eq, kSub2_int, ev_slc, kSlc_eq, kSlc2_eq, kSlc3_eq, ev_calln, ev_bi, kBi_1, kBi_2, ev_isi, kIsi_eq, ev_isx, kIsx_eq, ev_me, kMe2_1, es_n, es_c, kEs_eq, st_asg, st_ret, st_if, kIf_eq, kIf2_t, kIf2_f, st_for, st_unp, st_expr, kExpr_eq, st_rais, st_pass, st_try, kTry_ok, st_set, st_fz, kFz_fz, kFz_no, kOwn_lst, kAsg_eq, kRet_eq, kSto_ok, kIsN_eq, kSeq_ok, Nat.reduceLeDiff, beq_tf, beq_ft, beq_tt, beq_ff, isNon_int, isNon_str, isNon_lst, isNon_tup, isNon_exc, isNon_bl, isNon_non, isOwn_exc, kUnp_2, kUnp_3, res_int, res_bl, res_str, res_lst, res_tup, res_non, nst_c, nst_v, nst_ov, nst_g, nst_tup, nst_lst, nst_bin, nst_neg, nst_cmp, nst_chain, nst_isN, nst_notN, nst_not, nst_and, nst_or, nst_ife, nst_sub, nst_slc, nst_rev, nst_call, nst_call1, nst_bi, nst_isi, nst_isx, nst_me, nst_pop, nst_popAt, nst_comp, nst_bad, isOwn_int, isOwn_bl, isOwn_str, isOwn_non, isOwn_tup, isOwn_lst, isOwn_own, decide_true, decide_false, truth_bl, if_true, if_false, Bool.false_eq_true, lockOf_zo, lockOf_zf, lockOf_zn, lockOf_s, lockOf_n, List.length_cons, List.length_nil, List.set_cons_zero, List.set_cons_succ, Nat.reduceAdd, Nat.reduceLT, ownsX_z, ownsX_s, ownsL_z, ownsL_s, Bool.not_true, Bool.not_false, outsE, bop_add, bop_sub, cop_gt, cop_ge, cop_lt, cop_le, bi_int, bi_intb, bi_abs, bi_lenL, bi_lenT, List.any_cons, List.any_nil, Bool.or_false, Bool.false_or, f4, b4, gl2, cop_eqS]
    rfl
  · have hmt : meTy .split (st l) = true := rfl
    have hm := me_spl (l := l) (by omega)
    have hlp : (parts l).length ≤ 1000 := by have := parts_len l; omega
    -- the pairs
    have cm1 : evE T (callF T (k + 2)) (lockOf [.fz (st l)]) (.comp [3] (.n 3) .seq [(.me .split (.v 0) [(.g 3)])] [] true (.call 3 [(.v 3)] [])) [.fz (st l), .no, .no, .no, .no, .no] = .ok (.lst ((parts l).map pairIn), [.fz (st l), .no, .no, .no, .no, .no]) := by
      rw [ev_comp1 (ds := [.lst ((parts l).map st)]) (xs := (parts l).map st) (t := fun _ => true) (g := fun d => pairIn (signs d)) ?_ rfl rfl (show 3 < 6 by decide) rfl rfl ?_ ?_]
      · rw [filter_tt, List.map_map]; rfl
      · simp -implicitDefEqProofs only [List.replicate, List.cons_append, List.nil_append, evSs_c, evSs_n, thenS_next, thenS_ret, thenS_brk, thenS_cont, thenS_ex, retF_ret, retF_ex, retF_next, R.bind_ok, R.bind_ex, R.of_some, getE_z, getE_s, getE_n, ev_c, ev_v, kVar_fz, kVar_ow, ev_g, kPure_some, kBool_some, ev_tup, ev_lst, ev_bin, kBin_eq, kBin2_eq, ev_cmp, kCmp_eq, kCmp2_eq, ev_chain, kChain_eq, kChain2_eq, kChain3_t, kChain3_f, ev_isN, ev_notN, ev_not, kNot_eq, ev_and, kAnd_bl, kAnd2_t, kAnd2_f, ev_or, kOr_bl, kOr_lst, kOr2_t, kOr2_f, ev_ife, kIfe_eq, kIfe2_t, kIfe2_f, ev_sub, kSub_eq, kSub2_int, ev_slc, kSlc_eq, kSlc2_eq, kSlc3_eq, ev_calln, ev_bi, kBi_1, kBi_2, ev_isi, kIsi_eq, ev_isx, kIsx_eq, ev_me, kMe2_1, es_n, es_c, kEs_eq, st_asg, st_ret, st_if, kIf_eq, kIf2_t, kIf2_f, st_for, st_unp, st_expr, kExpr_eq, st_rais, st_pass, st_try, kTry_ok, st_set, st_fz, kFz_fz, kFz_no, kOwn_lst, kAsg_eq, kRet_eq, kSto_ok, kIsN_eq, kSeq_ok, Nat.reduceLeDiff, beq_tf, beq_ft, beq_tt, beq_ff, isNon_int, isNon_str, isNon_lst, isNon_tup, isNon_exc, isNon_bl, isNon_non, isOwn_exc, kUnp_2, kUnp_3, res_int, res_bl, res_str, res_lst, res_tup, res_non, nst_c, nst_v, nst_ov, nst_g, nst_tup, nst_lst, nst_bin, nst_neg, nst_cmp, nst_chain, nst_isN, nst_notN, nst_not, nst_and, nst_or, nst_ife, nst_sub, nst_slc, nst_rev, nst_call, nst_call1, nst_bi, nst_isi, nst_isx, nst_me, nst_pop, nst_popAt, nst_comp, nst_bad, isOwn_int, isOwn_bl, isOwn_str, isOwn_non, isOwn_tup, isOwn_lst, isOwn_own, decide_true, decide_false, truth_bl, if_true, if_false, Bool.false_eq_true, lockOf_zo, lockOf_zf, lockOf_zn, lockOf_s, lockOf_n, List.length_cons, List.length_nil, List.set_cons_zero, List.set_cons_succ, Nat.reduceAdd, Nat.reduceLT, ownsX_z, ownsX_s, ownsL_z, ownsL_s, Bool.not_true, Bool.not_false, outsE, bop_add, bop_sub, cop_gt, cop_ge, cop_lt, cop_le, bi_int, bi_intb, bi_abs, bi_lenL, bi_lenT, List.any_cons, List.any_nil, Bool.or_false, Bool.false_or, gl3, kMe_eq, hmt, hm]
      · intro d hd
        obtain ⟨p, hp, rfl⟩ := List.mem_map.mp hd
        refine ⟨rfl, evTs_nil .., fun _ => ⟨?_, pairIn_no p⟩⟩
        have cp := fun env => c1 (a := st p) (b := .non) rfl rfl (pair_in_ok k (l := p) (by have := part_len hp; omega)) env
        simp -implicitDefEqProofs only [List.replicate, List.cons_append, List.nil_append, evSs_c, evSs_n, thenS_next, thenS_ret, thenS_brk, thenS_cont, thenS_ex, retF_ret, retF_ex, retF_next, R.bind_ok, R.bind_ex, R.of_some, getE_z, getE_s, getE_n, ev_c, ev_v, kVar_fz, kVar_ow, ev_g, kPure_some, kBool_some, ev_tup, ev_lst, ev_bin, kBin_eq, kBin2_eq, ev_cmp, kCmp_eq, kCmp2_eq, ev_chain, kChain_eq, kChain2_eq, kChain3_t, kChain3_f, ev_isN, ev_notN, ev_not, kNot_eq, ev_and, kAnd_bl, kAnd2_t, kAnd2_f, ev_or, kOr_bl, kOr_lst, kOr2_t, kOr2_f, ev_ife, kIfe_eq, kIfe2_t, kIfe2_f, ev_sub, kSub_eq, kSub2_int, ev_slc, kSlc_eq, kSlc2_eq, kSlc3_eq, ev_calln, ev_bi, kBi_1, kBi_2, ev_isi, kIsi_eq, ev_isx, kIsx_eq, ev_me, kMe2_1, es_n, es_c, kEs_eq, st_asg, st_ret, st_if, kIf_eq, kIf2_t, kIf2_f, st_for, st_unp, st_expr, kExpr_eq, st_rais, st_pass, st_try, kTry_ok, st_set, st_fz, kFz_fz, kFz_no, kOwn_lst, kAsg_eq, kRet_eq, kSto_ok, kIsN_eq, kSeq_ok, Nat.reduceLeDiff, beq_tf, beq_ft, beq_tt, beq_ff, isNon_int, isNon_str, isNon_lst, isNon_tup, isNon_exc, isNon_bl, isNon_non, isOwn_exc, kUnp_2, kUnp_3, res_int, res_bl, res_str, res_lst, res_tup, res_non, nst_c, nst_v, nst_ov, nst_g, nst_tup, nst_lst, nst_bin, nst_neg, nst_cmp, nst_chain, nst_isN, nst_notN, nst_not, nst_and, nst_or, nst_ife, nst_sub, nst_slc, nst_rev, nst_call, nst_call1, nst_bi, nst_isi, nst_isx, nst_me, nst_pop, nst_popAt, nst_comp, nst_bad, isOwn_int, isOwn_bl, isOwn_str, isOwn_non, isOwn_tup, isOwn_lst, isOwn_own, decide_true, decide_false, truth_bl, if_true, if_false, Bool.false_eq_true, lockOf_zo, lockOf_zf, lockOf_zn, lockOf_s, lockOf_n, List.length_cons, List.length_nil, List.set_cons_zero, List.set_cons_succ, Nat.reduceAdd, Nat.reduceLT, ownsX_z, ownsX_s, ownsL_z, ownsL_s, Bool.not_true, Bool.not_false, outsE, bop_add, bop_sub, cop_gt, cop_ge, cop_lt, cop_le, bi_int, bi_intb, bi_abs, bi_lenL, bi_lenT, List.any_cons, List.any_nil, Bool.or_false, Bool.false_or, kCall_1 T (callF T (k + 2)) (f := 3) (F := f3) rfl rfl, cp]
        rfl
      · rw [List.length_map]; exact Nat.le_trans hlp (by decide)
    cases ho : (parts l).all okP with
    | false =>
      simp -implicitDefEqProofs only [List.replicate, List.cons_append, List.nil_append, evSs_c, evSs_n, thenS_next, thenS_ret, thenS_brk, thenS_cont, thenS_ex, retF_ret, retF_ex, retF_next, R.bind_ok, R.bind_ex, R.of_some, getE_z, getE_s, getE_n, ev_c, ev_v, kVar_fz, kVar_ow, ev_g, kPure_some, kBool_some, ev_tup, ev_lst, ev_bin, kBin_eq, kBin2_eq, ev_cmp, kCmp_eq, kCmp2_eq, ev_chain, kChain_eq, kChain2_eq, kChain3_t, kChain3_f, ev_isN, ev_notN, ev_not, kNot_eq, ev_and, kAnd_bl, kAnd2_t, kAnd2_f, ev_or, kOr_bl, kOr_lst, kOr2_t, kOr2_f, ev_ife, kIfe_eq, kIfe2_t, kIfe2_f, ev_sub, kSub_eq, kSub2_int, ev_slc, kSlc_eq, kSlc2_eq, kSlc3_eq, ev_calln, ev_bi, kBi_1, kBi_2, ev_isi, kIsi_eq, ev_isx, kIsx_eq, ev_me, kMe2_1, es_n, es_c, kEs_eq, st_asg, st_ret, st_if, kIf_eq, kIf2_t, kIf2_f, st_for, st_unp, st_expr, kExpr_eq, st_rais, st_pass, st_try, kTry_ok, st_set, st_fz, kFz_fz, kFz_no, kOwn_lst, kAsg_eq, kRet_eq, kSto_ok, kIsN_eq, kSeq_ok, Nat.reduceLeDiff, beq_tf, beq_ft, beq_tt, beq_ff, isNon_int, isNon_str, isNon_lst, isNon_tup, isNon_exc, isNon_bl, isNon_non, isOwn_exc, kUnp_2, kUnp_3, res_int, res_bl, res_str, res_lst, res_tup, res_non, nst_c, nst_v, nst_ov, nst_g, nst_tup, nst_lst, nst_bin, nst_neg, nst_cmp, nst_chain, nst_isN, nst_notN, nst_not, nst_and, nst_or, nst_ife, nst_sub, nst_slc, nst_rev, nst_call, nst_call1, nst_bi, nst_isi, nst_isx, nst_me, nst_pop, nst_popAt, nst_comp, nst_bad, isOwn_int, isOwn_bl, isOwn_str, isOwn_non, isOwn_tup, isOwn_lst, isOwn_own, decide_true, decide_false, truth_bl, if_true, if_false, Bool.false_eq_true, lockOf_zo, lockOf_zf, lockOf_zn, lockOf_s, lockOf_n, List.length_cons, List.length_nil, List.set_cons_zero, List.set_cons_succ, Nat.reduceAdd, Nat.reduceLT, ownsX_z, ownsX_s, ownsL_z, ownsL_s, Bool.not_true, Bool.not_false, outsE, bop_add, bop_sub, cop_gt, cop_ge, cop_lt, cop_le, bi_int, bi_intb, bi_abs, bi_lenL, bi_lenT, List.any_cons, List.any_nil, Bool.or_false, Bool.false_or, f4, b4, gl2, cop_eqS, h45, cm1, isin_pairs, ho]
      unfold crowdIn
      rw [if_neg h45, ho]
      rfl
    | true =>
      have ho' : ∀ p ∈ parts l, okP p = true := List.all_eq_true.mp ho
      have few : (parts l).length < 64 := parts_few hlen fun p hp => (okP_tup (ho' p hp)).choose_spec.2.2
      have cm2 : evE T (callF T (k + 2)) (lockOf [.fz (st l)]) (.comp [4, 5] (.t [4, 5]) .seq [(.v 1)] [] true (.v 4)) [.fz (st l), .fz (.lst ((parts l).map pairIn)), .no, .no, .no, .no] = .ok (.lst (((parts l).map name).map st), [.fz (st l), .fz (.lst ((parts l).map pairIn)), .no, .no, .no, .no]) := by
        rw [ev_comp2 (ds := [.lst ((parts l).map pairIn)]) (xs := (parts l).map pairIn) (t := fun _ => true) (g := fun d => match d with
          | .tup [a, _] => a
          | _ => .non) ?_ rfl rfl (show 4 < 6 by decide) (show 5 < 6 by decide) (by decide) rfl rfl rfl ?_ ?_]
        · rw [filter_tt, List.map_map, List.map_map]
          congr 2
          exact congrArg D.lst (List.map_congr_left fun p hp => fst_of (ho' p hp))
        · simp -implicitDefEqProofs only [List.replicate, List.cons_append, List.nil_append, evSs_c, evSs_n, thenS_next, thenS_ret, thenS_brk, thenS_cont, thenS_ex, retF_ret, retF_ex, retF_next, R.bind_ok, R.bind_ex, R.of_some, getE_z, getE_s, getE_n, ev_c, ev_v, kVar_fz, kVar_ow, ev_g, kPure_some, kBool_some, ev_tup, ev_lst, ev_bin, kBin_eq, kBin2_eq, ev_cmp, kCmp_eq, kCmp2_eq, ev_chain, kChain_eq, kChain2_eq, kChain3_t, kChain3_f, ev_isN, ev_notN, ev_not, kNot_eq, ev_and, kAnd_bl, kAnd2_t, kAnd2_f, ev_or, kOr_bl, kOr_lst, kOr2_t, kOr2_f, ev_ife, kIfe_eq, kIfe2_t, kIfe2_f, ev_sub, kSub_eq, kSub2_int, ev_slc, kSlc_eq, kSlc2_eq, kSlc3_eq, ev_calln, ev_bi, kBi_1, kBi_2, ev_isi, kIsi_eq, ev_isx, kIsx_eq, ev_me, kMe2_1, es_n, es_c, kEs_eq, st_asg, st_ret, st_if, kIf_eq, kIf2_t, kIf2_f, st_for, st_unp, st_expr, kExpr_eq, st_rais, st_pass, st_try, kTry_ok, st_set, st_fz, kFz_fz, kFz_no, kOwn_lst, kAsg_eq, kRet_eq, kSto_ok, kIsN_eq, kSeq_ok, Nat.reduceLeDiff, beq_tf, beq_ft, beq_tt, beq_ff, isNon_int, isNon_str, isNon_lst, isNon_tup, isNon_exc, isNon_bl, isNon_non, isOwn_exc, kUnp_2, kUnp_3, res_int, res_bl, res_str, res_lst, res_tup, res_non, nst_c, nst_v, nst_ov, nst_g, nst_tup, nst_lst, nst_bin, nst_neg, nst_cmp, nst_chain, nst_isN, nst_notN, nst_not, nst_and, nst_or, nst_ife, nst_sub, nst_slc, nst_rev, nst_call, nst_call1, nst_bi, nst_isi, nst_isx, nst_me, nst_pop, nst_popAt, nst_comp, nst_bad, isOwn_int, isOwn_bl, isOwn_str, isOwn_non, isOwn_tup, isOwn_lst, isOwn_own, decide_true, decide_false, truth_bl, if_true, if_false, Bool.false_eq_true, lockOf_zo, lockOf_zf, lockOf_zn, lockOf_s, lockOf_n, List.length_cons, List.length_nil, List.set_cons_zero, List.set_cons_succ, Nat.reduceAdd, Nat.reduceLT, ownsX_z, ownsX_s, ownsL_z, ownsL_s, Bool.not_true, Bool.not_false, outsE, bop_add, bop_sub, cop_gt, cop_ge, cop_lt, cop_le, bi_int, bi_intb, bi_abs, bi_lenL, bi_lenT, List.any_cons, List.any_nil, Bool.or_false, Bool.false_or]
        · intro d hd
          obtain ⟨p, hp, rfl⟩ := List.mem_map.mp hd
          obtain ⟨n, e, _⟩ := okP_tup (ho' p hp)
          refine ⟨st (name p), .int n, .inl e, rfl, rfl, evTs_nil .., fun _ => ?_⟩
          rw [e]
          refine ⟨?_, rfl⟩
          simp -implicitDefEqProofs only [List.replicate, List.cons_append, List.nil_append, evSs_c, evSs_n, thenS_next, thenS_ret, thenS_brk, thenS_cont, thenS_ex, retF_ret, retF_ex, retF_next, R.bind_ok, R.bind_ex, R.of_some, getE_z, getE_s, getE_n, ev_c, ev_v, kVar_fz, kVar_ow, ev_g, kPure_some, kBool_some, ev_tup, ev_lst, ev_bin, kBin_eq, kBin2_eq, ev_cmp, kCmp_eq, kCmp2_eq, ev_chain, kChain_eq, kChain2_eq, kChain3_t, kChain3_f, ev_isN, ev_notN, ev_not, kNot_eq, ev_and, kAnd_bl, kAnd2_t, kAnd2_f, ev_or, kOr_bl, kOr_lst, kOr2_t, kOr2_f, ev_ife, kIfe_eq, kIfe2_t, kIfe2_f, ev_sub, kSub_eq, kSub2_int, ev_slc, kSlc_eq, kSlc2_eq, kSlc3_eq, ev_calln, ev_bi, kBi_1, kBi_2, ev_isi, kIsi_eq, ev_isx, kIsx_eq, ev_me, kMe2_1, es_n, es_c, kEs_eq, st_asg, st_ret, st_if, kIf_eq, kIf2_t, kIf2_f, st_for, st_unp, st_expr, kExpr_eq, st_rais, st_pass, st_try, kTry_ok, st_set, st_fz, kFz_fz, kFz_no, kOwn_lst, kAsg_eq, kRet_eq, kSto_ok, kIsN_eq, kSeq_ok, Nat.reduceLeDiff, beq_tf, beq_ft, beq_tt, beq_ff, isNon_int, isNon_str, isNon_lst, isNon_tup, isNon_exc, isNon_bl, isNon_non, isOwn_exc, kUnp_2, kUnp_3, res_int, res_bl, res_str, res_lst, res_tup, res_non, nst_c, nst_v, nst_ov, nst_g, nst_tup, nst_lst, nst_bin, nst_neg, nst_cmp, nst_chain, nst_isN, nst_notN, nst_not, nst_and, nst_or, nst_ife, nst_sub, nst_slc, nst_rev, nst_call, nst_call1, nst_bi, nst_isi, nst_isx, nst_me, nst_pop, nst_popAt, nst_comp, nst_bad, isOwn_int, isOwn_bl, isOwn_str, isOwn_non, isOwn_tup, isOwn_lst, isOwn_own, decide_true, decide_false, truth_bl, if_true, if_false, Bool.false_eq_true, lockOf_zo, lockOf_zf, lockOf_zn, lockOf_s, lockOf_n, List.length_cons, List.length_nil, List.set_cons_zero, List.set_cons_succ, Nat.reduceAdd, Nat.reduceLT, ownsX_z, ownsX_s, ownsL_z, ownsL_s, Bool.not_true, Bool.not_false, outsE, bop_add, bop_sub, cop_gt, cop_ge, cop_lt, cop_le, bi_int, bi_intb, bi_abs, bi_lenL, bi_lenT, List.any_cons, List.any_nil, Bool.or_false, Bool.false_or]
        · rw [List.length_map]; exact Nat.le_trans hlp (by decide)
      have hk : ∀ a ∈ (parts l).map name, kindB a = true := fun a ha => by
        obtain ⟨p, hp, rfl⟩ := List.mem_map.mp ha
        exact (okP_tup (ho' p hp)).choose_spec.2.1
      have hs := sset_names (l := (parts l).map name) (by rw [List.length_map]; exact few)
      have hn := ne_names hk
      cases hr : rise ((parts l).map name) with
      | false =>
        rw [hr] at hn
        simp -implicitDefEqProofs only [List.replicate, List.cons_append, List.nil_append, evSs_c, evSs_n, thenS_next, thenS_ret, thenS_brk, thenS_cont, thenS_ex, retF_ret, retF_ex, retF_next, R.bind_ok, R.bind_ex, R.of_some, getE_z, getE_s, getE_n, ev_c, ev_v, kVar_fz, kVar_ow, ev_g, kPure_some, kBool_some, ev_tup, ev_lst, ev_bin, kBin_eq, kBin2_eq, ev_cmp, kCmp_eq, kCmp2_eq, ev_chain, kChain_eq, kChain2_eq, kChain3_t, kChain3_f, ev_isN, ev_notN, ev_not, kNot_eq, ev_and, kAnd_bl, kAnd2_t, kAnd2_f, ev_or, kOr_bl, kOr_lst, kOr2_t, kOr2_f, ev_ife, kIfe_eq, kIfe2_t, kIfe2_f, ev_sub, kSub_eq, kSub2_int, ev_slc, kSlc_eq, kSlc2_eq, kSlc3_eq, ev_calln, ev_bi, kBi_1, kBi_2, ev_isi, kIsi_eq, ev_isx, kIsx_eq, ev_me, kMe2_1, es_n, es_c, kEs_eq, st_asg, st_ret, st_if, kIf_eq, kIf2_t, kIf2_f, st_for, st_unp, st_expr, kExpr_eq, st_rais, st_pass, st_try, kTry_ok, st_set, st_fz, kFz_fz, kFz_no, kOwn_lst, kAsg_eq, kRet_eq, kSto_ok, kIsN_eq, kSeq_ok, Nat.reduceLeDiff, beq_tf, beq_ft, beq_tt, beq_ff, isNon_int, isNon_str, isNon_lst, isNon_tup, isNon_exc, isNon_bl, isNon_non, isOwn_exc, kUnp_2, kUnp_3, res_int, res_bl, res_str, res_lst, res_tup, res_non, nst_c, nst_v, nst_ov, nst_g, nst_tup, nst_lst, nst_bin, nst_neg, nst_cmp, nst_chain, nst_isN, nst_notN, nst_not, nst_and, nst_or, nst_ife, nst_sub, nst_slc, nst_rev, nst_call, nst_call1, nst_bi, nst_isi, nst_isx, nst_me, nst_pop, nst_popAt, nst_comp, nst_bad, isOwn_int, isOwn_bl, isOwn_str, isOwn_non, isOwn_tup, isOwn_lst, isOwn_own, decide_true, decide_false, truth_bl, if_true, if_false, Bool.false_eq_true, lockOf_zo, lockOf_zf, lockOf_zn, lockOf_s, lockOf_n, List.length_cons, List.length_nil, List.set_cons_zero, List.set_cons_succ, Nat.reduceAdd, Nat.reduceLT, ownsX_z, ownsX_s, ownsL_z, ownsL_s, Bool.not_true, Bool.not_false, outsE, bop_add, bop_sub, cop_gt, cop_ge, cop_lt, cop_le, bi_int, bi_intb, bi_abs, bi_lenL, bi_lenT, List.any_cons, List.any_nil, Bool.or_false, Bool.false_or, f4, b4, gl2, cop_eqS, h45, cm1, isin_pairs, ho, cm2, hs, hn]
        unfold crowdIn
        rw [if_neg h45, ho, hr]
        rfl
      | true =>
        rw [hr] at hn
        have ht : biD .tuple [.lst ((parts l).map pairIn)] = some (.tup ((parts l).map pairIn)) := rfl
        simp -implicitDefEqProofs only [List.replicate, List.cons_append, List.nil_append, evSs_c, evSs_n, thenS_next, thenS_ret, thenS_brk, thenS_cont, thenS_ex, retF_ret, retF_ex, retF_next, R.bind_ok, R.bind_ex, R.of_some, getE_z, getE_s, getE_n, ev_c, ev_v, kVar_fz, kVar_ow, ev_g, kPure_some, kBool_some, ev_tup, ev_lst, ev_bin, kBin_eq, kBin2_eq, ev_cmp, kCmp_eq, kCmp2_eq, ev_chain, kChain_eq, kChain2_eq, kChain3_t, kChain3_f, ev_isN, ev_notN, ev_not, kNot_eq, ev_and, kAnd_bl, kAnd2_t, kAnd2_f, ev_or, kOr_bl, kOr_lst, kOr2_t, kOr2_f, ev_ife, kIfe_eq, kIfe2_t, kIfe2_f, ev_sub, kSub_eq, kSub2_int, ev_slc, kSlc_eq, kSlc2_eq, kSlc3_eq, ev_calln, ev_bi, kBi_1, kBi_2, ev_isi, kIsi_eq, ev_isx, kIsx_eq, ev_me, kMe2_1, es_n, es_c, kEs_eq, st_asg, st_ret, st_if, kIf_eq, kIf2_t, kIf2_f, st_for, st_unp, st_expr, kExpr_eq, st_rais, st_pass, st_try, kTry_ok, st_set, st_fz, kFz_fz, kFz_no, kOwn_lst, kAsg_eq, kRet_eq, kSto_ok, kIsN_eq, kSeq_ok, Nat.reduceLeDiff, beq_tf, beq_ft, beq_tt, beq_ff, isNon_int, isNon_str, isNon_lst, isNon_tup, isNon_exc, isNon_bl, isNon_non, isOwn_exc, kUnp_2, kUnp_3, res_int, res_bl, res_str, res_lst, res_tup, res_non, nst_c, nst_v, nst_ov, nst_g, nst_tup, nst_lst, nst_bin, nst_neg, nst_cmp, nst_chain, nst_isN, nst_notN, nst_not, nst_and, nst_or, nst_ife, nst_sub, nst_slc, nst_rev, nst_call, nst_call1, nst_bi, nst_isi, nst_isx, nst_me, nst_pop, nst_popAt, nst_comp, nst_bad, isOwn_int, isOwn_bl, isOwn_str, isOwn_non, isOwn_tup, isOwn_lst, isOwn_own, decide_true, decide_false, truth_bl, if_true, if_false, Bool.false_eq_true, lockOf_zo, lockOf_zf, lockOf_zn, lockOf_s, lockOf_n, List.length_cons, List.length_nil, List.set_cons_zero, List.set_cons_succ, Nat.reduceAdd, Nat.reduceLT, ownsX_z, ownsX_s, ownsL_z, ownsL_s, Bool.not_true, Bool.not_false, outsE, bop_add, bop_sub, cop_gt, cop_ge, cop_lt, cop_le, bi_int, bi_intb, bi_abs, bi_lenL, bi_lenT, List.any_cons, List.any_nil, Bool.or_false, Bool.false_or, f4, b4, gl2, cop_eqS, h45, cm1, isin_pairs, ho, cm2, hs, hn, ht]
        unfold crowdIn
        rw [if_neg h45, ho, hr]
        rfl
/-- what the law hears -/
def heardD (l : List Nat) : D := match crowdIn l with
  | some ds => .tup ds
  | none => st [98, 97, 100]
theorem par_2 {lk : Lk} {i j : Nat} {a b : D} {e1 e2 : IE} {env : Env} (ha : isOwn a = false) (hb : isOwn b = false) (hi : lk i = false) (hj : lk j = false) (il : i < env.length) (jl : j < env.length) : kPar T lk [i, j] [false, false] [e1, e2] ([a, b], env) = .ok (.next, (env.set j (.fz b)).set i (.fz a)) := by
  unfold kPar
  simp only [parE, Option.bind_some, ha, hb, Bool.false_eq_true, if_false, setE_ok hj jl]
  rw [setE_ok hi (by simpa using il)]
  rfl
theorem callK0 (k : Nat) (l : List Nat) (env : Env) (lk : Lk) (e : IE) (he : evE T (callF T k) lk e env = .ok (st l, env)) (hst : isStar e = false) : evE T (callF T k) lk (.call 4 [e] [0]) env = callD (callF T k) 4 [st l] env :=
  ev_callK (F := f4) rfl (ds := [st l]) (by rw [es_c _ _ _ _ _ hst, he]; rfl) rfl
theorem heard_ok (k : Nat) {l : List Nat} (hlen : l.length ≤ 300) : callF T (k + 4) 12 [.fz (st l)] = .ok (heardD l, [.no]) := by
  rw [callF_eq (k + 3) (F := f12) rfl rfl rfl]
  have hc := crowd_in_ok k hlen
  have hk := fun env => callK0 (k + 3) l (.fz (st l) :: env) (lockOf [.fz (st l)]) (.v 0) (by rw [ev_v]; rfl) rfl
  have sp := fun env => st_par T (callF T (k + 3)) (lockOf [.fz (st l)]) (is := [2, 3]) [false, false] (es := [(.c .non), (.c .non)]) env rfl
  cases hcr : crowdIn l with
  | some ds =>
    rw [hcr] at hc
    have hd := fun env => c1 (a := st l) (b := .non) rfl rfl hc env
    simp -implicitDefEqProofs only [List.replicate, List.cons_append, List.nil_append, evSs_c, evSs_n, thenS_next, thenS_ret, thenS_brk, thenS_cont, thenS_ex, retF_ret, retF_ex, retF_next, R.bind_ok, R.bind_ex, R.of_some, getE_z, getE_s, getE_n, ev_c, ev_v, kVar_fz, kVar_ow, ev_g, kPure_some, kBool_some, ev_tup, ev_lst, ev_bin, kBin_eq, kBin2_eq, ev_cmp, kCmp_eq, kCmp2_eq, ev_chain, kChain_eq, kChain2_eq, kChain3_t, kChain3_f, ev_isN, ev_notN, ev_not, kNot_eq, ev_and, kAnd_bl, kAnd2_t, kAnd2_f, ev_or, kOr_bl, kOr_lst, kOr2_t, kOr2_f, ev_ife, kIfe_eq, kIfe2_t, kIfe2_f, ev_sub, kSub_eq, kSub2_int, ev_slc, kSlc_eq, kSlc2_eq, kSlc3_eq, ev_calln, ev_bi, kBi_1, kBi_2, ev_isi, kIsi_eq, ev_isx, kIsx_eq, ev_me, kMe2_1, es_n, es_c, kEs_eq, st_asg, st_ret, st_if, kIf_eq, kIf2_t, kIf2_f, st_for, st_unp, st_expr, kExpr_eq, st_rais, st_pass, st_try, kTry_ok, st_set, st_fz, kFz_fz, kFz_no, kOwn_lst, kAsg_eq, kRet_eq, kSto_ok, kIsN_eq, kSeq_ok, Nat.reduceLeDiff, beq_tf, beq_ft, beq_tt, beq_ff, isNon_int, isNon_str, isNon_lst, isNon_tup, isNon_exc, isNon_bl, isNon_non, isOwn_exc, kUnp_2, kUnp_3, res_int, res_bl, res_str, res_lst, res_tup, res_non, nst_c, nst_v, nst_ov, nst_g, nst_tup, nst_lst, nst_bin, nst_neg, nst_cmp, nst_chain, nst_isN, nst_notN, nst_not, nst_and, nst_or, nst_ife, nst_sub, nst_slc, nst_rev, nst_call, nst_call1, nst_bi, nst_isi, nst_isx, nst_me, nst_pop, nst_popAt, nst_comp, nst_bad, isOwn_int, isOwn_bl, isOwn_str, isOwn_non, isOwn_tup, isOwn_lst, isOwn_own, decide_true, decide_false, truth_bl, if_true, if_false, Bool.false_eq_true, lockOf_zo, lockOf_zf, lockOf_zn, lockOf_s, lockOf_n, List.length_cons, List.length_nil, List.set_cons_zero, List.set_cons_succ, Nat.reduceAdd, Nat.reduceLT, ownsX_z, ownsX_s, ownsL_z, ownsL_s, Bool.not_true, Bool.not_false, outsE, bop_add, bop_sub, cop_gt, cop_ge, cop_lt, cop_le, bi_int, bi_intb, bi_abs, bi_lenL, bi_lenT, List.any_cons, List.any_nil, Bool.or_false, Bool.false_or, f12, b12, sp, par_2, hk, hd]
    unfold heardD
    rw [hcr]
  | none =>
    rw [hcr] at hc
    have hd := fun env => callD_ex (ds := [st l]) (env := .fz (st l) :: env) rfl rfl hc rfl
    have hsub : subAny T 0 [0] = some true := rfl
    have hsub1 : T.sub 0 1 = some true := rfl
    simp -implicitDefEqProofs only [List.replicate, List.cons_append, List.nil_append, evSs_c, evSs_n, thenS_next, thenS_ret, thenS_brk, thenS_cont, thenS_ex, retF_ret, retF_ex, retF_next, R.bind_ok, R.bind_ex, R.of_some, getE_z, getE_s, getE_n, ev_c, ev_v, kVar_fz, kVar_ow, ev_g, kPure_some, kBool_some, ev_tup, ev_lst, ev_bin, kBin_eq, kBin2_eq, ev_cmp, kCmp_eq, kCmp2_eq, ev_chain, kChain_eq, kChain2_eq, kChain3_t, kChain3_f, ev_isN, ev_notN, ev_not, kNot_eq, ev_and, kAnd_bl, kAnd2_t, kAnd2_f, ev_or, kOr_bl, kOr_lst, kOr2_t, kOr2_f, ev_ife, kIfe_eq, kIfe2_t, kIfe2_f, ev_sub, kSub_eq, kSub2_int, ev_slc, kSlc_eq, kSlc2_eq, kSlc3_eq, ev_calln, ev_bi, kBi_1, kBi_2, ev_isi, kIsi_eq, ev_isx, kIsx_eq, ev_me, kMe2_1, es_n, es_c, kEs_eq, st_asg, st_ret, st_if, kIf_eq, kIf2_t, kIf2_f, st_for, st_unp, st_expr, kExpr_eq, st_rais, st_pass, st_try, kTry_ok, st_set, st_fz, kFz_fz, kFz_no, kOwn_lst, kAsg_eq, kRet_eq, kSto_ok, kIsN_eq, kSeq_ok, Nat.reduceLeDiff, beq_tf, beq_ft, beq_tt, beq_ff, isNon_int, isNon_str, isNon_lst, isNon_tup, isNon_exc, isNon_bl, isNon_non, isOwn_exc, kUnp_2, kUnp_3, res_int, res_bl, res_str, res_lst, res_tup, res_non, nst_c, nst_v, nst_ov, nst_g, nst_tup, nst_lst, nst_bin, nst_neg, nst_cmp, nst_chain, nst_isN, nst_notN, nst_not, nst_and, nst_or, nst_ife, nst_sub, nst_slc, nst_rev, nst_call, nst_call1, nst_bi, nst_isi, nst_isx, nst_me, nst_pop, nst_popAt, nst_comp, nst_bad, isOwn_int, isOwn_bl, isOwn_str, isOwn_non, isOwn_tup, isOwn_lst, isOwn_own, decide_true, decide_false, truth_bl, if_true, if_false, Bool.false_eq_true, lockOf_zo, lockOf_zf, lockOf_zn, lockOf_s, lockOf_n, List.length_cons, List.length_nil, List.set_cons_zero, List.set_cons_succ, Nat.reduceAdd, Nat.reduceLT, ownsX_z, ownsX_s, ownsL_z, ownsL_s, Bool.not_true, Bool.not_false, outsE, bop_add, bop_sub, cop_gt, cop_ge, cop_lt, cop_le, bi_int, bi_intb, bi_abs, bi_lenL, bi_lenT, List.any_cons, List.any_nil, Bool.or_false, Bool.false_or, f12, b12, sp, par_2, hk, hd, kTry_ex, hsub, hsub1, s_bad]
    unfold heardD
    rw [hcr]
end K90

set_option linter.all false
set_option Elab.async false
set_option maxRecDepth 100000
/-! P90f: the law's own reading (own work; printed from P90f.tpl by exp.py). -/
namespace K90
open IV

theorem s_cm : D.str ", " = st CM := rfl
theorem s_bl : D.str " " = st [32] := rfl
theorem s_a : D.str "a" = st [97] := rfl
theorem s_z : D.str "z" = st [122] := rfl
theorem s_dig : D.str "0123456789" = st DIG := rfl
theorem me_spl32 {l : List Nat} (h : l.length ≤ 1000) : meD .split (st l) [st [32]] = some (.lst ((TL.spl [32] 0 [] l).map st)) := by
  show (if ((([32] : List Nat).length != 0) && decide (l.length + 2 ≤ line) && small8 ⟨⟨[32]⟩⟩) then _ else none) = _
  rw [decide_eq_true (Nat.le_trans (show l.length + 2 ≤ 1002 by omega) (by decide))]
  rfl
theorem cop_neI (i j : Int) : cop .ne (.int i) (.int j) = some (!decide (i = j)) := rfl
theorem sub20 (x y : D) : IV.subD (.lst [x, y]) (.int 0) = some x := rfl
theorem sub21 (x y : D) : IV.subD (.lst [x, y]) (.int 1) = some y := rfl
theorem subT0 (x y : D) : IV.subD (.tup [x, y]) (.int 0) = some x := rfl
/-- the body of the law's loop -/
def tb : List IS := [.asg 5 (.me .split (.v 2) [(.c (.str " "))]), .ifs (.or (.cmp .ne (.bi .len [(.v 5)]) (.c (.int 2))) (.or (.cmp .eq (.sub (.v 5) (.c (.int 0))) (.c (.str ""))) (.or (.cmp .eq (.sub (.v 5) (.c (.int 1))) (.c (.str ""))) (.cmp .eq (.sub (.sub (.v 5) (.c (.int 1))) (.c (.int 0))) (.c (.str "0")))))) [.ret (.c (.str "bad"))] [], .asg 6 (.comp [7] (.n 7) .seq [(.sub (.v 5) (.c (.int 0)))] [(.not (.chain .le .le (.c (.str "a")) (.v 7) (.c (.str "z"))))] true (.v 7)), .asg 6 (.bin .add (.v 6) (.comp [7] (.n 7) .seq [(.sub (.v 5) (.c (.int 1)))] [(.cmp .notin (.v 7) (.c (.str "0123456789")))] true (.v 7))), .ifs (.cmp .ne (.v 6) (.lst [])) [.ret (.c (.str "bad"))] [], .app 1 (.tup [(.sub (.v 5) (.c (.int 0))), (.bi .int [(.sub (.v 5) (.c (.int 1)))])])]
abbrev ev6 (l : List Nat) (acc : List D) (e2 e5 e6 : Ent) : Env := [.fz (st l), .ow (.lst acc), e2, .no, .no, e5, e6, .no, .no]
abbrev lkT (l : List Nat) : Lk := lockOf [.fz (st l)]
section
variable {k : Nat} {l p : List Nat} {acc : List D} {e2 e5 e6 : Ent}
theorem told_len (hp : p.length ≤ 300) (h : (TL.spl [32] 0 [] p).length ≠ 2) : ∃ e, evSs T (callF T k) (lkT l) tb (ev6 l acc (.fz (st p)) e5 e6) = .ok (.ret (st [98, 97, 100]), e) := by
  have hm := me_spl32 (l := p) (by omega)
  have hmt : meTy .split (st p) = true := rfl
  have hl : ¬ (((((TL.spl [32] 0 [] p).map st).length : Nat) : Int) = 2) := by rw [List.length_map]; omega
  obtain ⟨x, hx⟩ : ∃ x, evSs T (callF T k) (lkT l) tb (ev6 l acc (.fz (st p)) e5 e6) = x := ⟨_, rfl⟩
  have h2 := hx
  simp -implicitDefEqProofs only [List.replicate, List.cons_append, List.nil_append, evSs_c, evSs_n, thenS_next, thenS_ret, thenS_brk, thenS_cont, thenS_ex, retF_ret, retF_ex, retF_next, R.bind_ok, R.bind_ex, R.of_some, getE_z, getE_s, getE_n, ev_c, ev_v, kVar_fz, kVar_ow, ev_g, kPure_some, kBool_some, ev_tup, ev_lst, ev_bin, kBin_eq, kBin2_eq, ev_cmp, kCmp_eq, kCmp2_eq, ev_chain, kChain_eq, kChain2_eq, kChain3_t, kChain3_f, ev_isN, ev_notN, ev_not, kNot_eq, ev_and, kAnd_bl, kAnd2_t, kAnd2_f, ev_or, kOr_bl, kOr_lst, kOr2_t, kOr2_f, ev_ife, kIfe_eq, kIfe2_t, kIfe2_f, ev_sub, kSub_eq, kSub2_int, ev_slc, kSlc_eq, kSlc2_eq, kSlc3_eq, ev_calln, ev_bi, kBi_1, kBi_2, ev_isi, kIsi_eq, ev_isx, kIsx_eq, ev_me, kMe2_1, es_n, es_c, kEs_eq, st_asg, st_ret, st_if, kIf_eq, kIf2_t, kIf2_f, st_for, st_unp, st_expr, kExpr_eq, st_rais, st_pass, st_try, kTry_ok, st_set, st_fz, kFz_fz, kFz_no, kOwn_lst, kAsg_eq, kRet_eq, kSto_ok, kIsN_eq, kSeq_ok, Nat.reduceLeDiff, beq_tf, beq_ft, beq_tt, beq_ff, isNon_int, isNon_str, isNon_lst, isNon_tup, isNon_exc, isNon_bl, isNon_non, isOwn_exc, kUnp_2, kUnp_3, res_int, res_bl, res_str, res_lst, res_tup, res_non, nst_c, nst_v, nst_ov, nst_g, nst_tup, nst_lst, nst_bin, nst_neg, nst_cmp, nst_chain, nst_isN, nst_notN, nst_not, nst_and, nst_or, nst_ife, nst_sub, nst_slc, nst_rev, nst_call, nst_call1, nst_bi, nst_isi, nst_isx, nst_me, nst_pop, nst_popAt, nst_comp, nst_bad, isOwn_int, isOwn_bl, isOwn_str, isOwn_non, isOwn_tup, isOwn_lst, isOwn_own, decide_true, decide_false, truth_bl, if_true, if_false, Bool.false_eq_true, lockOf_zo, lockOf_zf, lockOf_zn, lockOf_s, lockOf_n, List.length_cons, List.length_nil, List.set_cons_zero, List.set_cons_succ, Nat.reduceAdd, Nat.reduceLT, ownsX_z, ownsX_s, ownsL_z, ownsL_s, Bool.not_true, Bool.not_false, outsE, bop_add, bop_sub, cop_gt, cop_ge, cop_lt, cop_le, bi_int, bi_intb, bi_abs, bi_lenL, bi_lenT, List.any_cons, List.any_nil, Bool.or_false, Bool.false_or, tb, s_bl, kMe_eq, hmt, hm, cop_neI, hl, s_bad] at h2
  exact ⟨_, hx.trans h2.symm⟩
theorem told_e0 (hp : p.length ≤ 300) {y : List Nat} (h : TL.spl [32] 0 [] p = [[], y]) : ∃ e, evSs T (callF T k) (lkT l) tb (ev6 l acc (.fz (st p)) e5 e6) = .ok (.ret (st [98, 97, 100]), e) := by
  have hm := me_spl32 (l := p) (by omega)
  rw [h] at hm
  have hmt : meTy .split (st p) = true := rfl
  have c22 : (((2 : Nat) : Int) = 2) = True := by simp
  obtain ⟨x, hx⟩ : ∃ x, evSs T (callF T k) (lkT l) tb (ev6 l acc (.fz (st p)) e5 e6) = x := ⟨_, rfl⟩
  have h2 := hx
  simp -implicitDefEqProofs only [List.replicate, List.cons_append, List.nil_append, evSs_c, evSs_n, thenS_next, thenS_ret, thenS_brk, thenS_cont, thenS_ex, retF_ret, retF_ex, retF_next, R.bind_ok, R.bind_ex, R.of_some, getE_z, getE_s, getE_n, ev_c, ev_v, kVar_fz, kVar_ow, ev_g, kPure_some, kBool_some, ev_tup, ev_lst, ev_bin, kBin_eq, kBin2_eq, ev_cmp, kCmp_eq, kCmp2_eq, ev_chain, kChain_eq, kChain2_eq, kChain3_t, kChain3_f, ev_isN, ev_notN, ev_not, kNot_eq, ev_and, kAnd_bl, kAnd2_t, kAnd2_f, ev_or, kOr_bl, kOr_lst, kOr2_t, kOr2_f, ev_ife, kIfe_eq, kIfe2_t, kIfe2_f, ev_sub, kSub_eq, kSub2_int, ev_slc, kSlc_eq, kSlc2_eq, kSlc3_eq, ev_calln, ev_bi, kBi_1, kBi_2, ev_isi, kIsi_eq, ev_isx, kIsx_eq, ev_me, kMe2_1, es_n, es_c, kEs_eq, st_asg, st_ret, st_if, kIf_eq, kIf2_t, kIf2_f, st_for, st_unp, st_expr, kExpr_eq, st_rais, st_pass, st_try, kTry_ok, st_set, st_fz, kFz_fz, kFz_no, kOwn_lst, kAsg_eq, kRet_eq, kSto_ok, kIsN_eq, kSeq_ok, Nat.reduceLeDiff, beq_tf, beq_ft, beq_tt, beq_ff, isNon_int, isNon_str, isNon_lst, isNon_tup, isNon_exc, isNon_bl, isNon_non, isOwn_exc, kUnp_2, kUnp_3, res_int, res_bl, res_str, res_lst, res_tup, res_non, nst_c, nst_v, nst_ov, nst_g, nst_tup, nst_lst, nst_bin, nst_neg, nst_cmp, nst_chain, nst_isN, nst_notN, nst_not, nst_and, nst_or, nst_ife, nst_sub, nst_slc, nst_rev, nst_call, nst_call1, nst_bi, nst_isi, nst_isx, nst_me, nst_pop, nst_popAt, nst_comp, nst_bad, isOwn_int, isOwn_bl, isOwn_str, isOwn_non, isOwn_tup, isOwn_lst, isOwn_own, decide_true, decide_false, truth_bl, if_true, if_false, Bool.false_eq_true, lockOf_zo, lockOf_zf, lockOf_zn, lockOf_s, lockOf_n, List.length_cons, List.length_nil, List.set_cons_zero, List.set_cons_succ, Nat.reduceAdd, Nat.reduceLT, ownsX_z, ownsX_s, ownsL_z, ownsL_s, Bool.not_true, Bool.not_false, outsE, bop_add, bop_sub, cop_gt, cop_ge, cop_lt, cop_le, bi_int, bi_intb, bi_abs, bi_lenL, bi_lenT, List.any_cons, List.any_nil, Bool.or_false, Bool.false_or, tb, s_bl, kMe_eq, hmt, hm, cop_neI, s_bad, List.map, c22, sub20, s_e, cop_eqS] at h2
  exact ⟨_, hx.trans h2.symm⟩
theorem told_e1 (hp : p.length ≤ 300) {x : List Nat} (hx0 : x ≠ []) (h : TL.spl [32] 0 [] p = [x, []]) : ∃ e, evSs T (callF T k) (lkT l) tb (ev6 l acc (.fz (st p)) e5 e6) = .ok (.ret (st [98, 97, 100]), e) := by
  have hm := me_spl32 (l := p) (by omega)
  rw [h] at hm
  have hmt : meTy .split (st p) = true := rfl
  have c22 : (((2 : Nat) : Int) = 2) = True := by simp
  obtain ⟨z, hx⟩ : ∃ x, evSs T (callF T k) (lkT l) tb (ev6 l acc (.fz (st p)) e5 e6) = x := ⟨_, rfl⟩
  have h2 := hx
  simp -implicitDefEqProofs only [List.replicate, List.cons_append, List.nil_append, evSs_c, evSs_n, thenS_next, thenS_ret, thenS_brk, thenS_cont, thenS_ex, retF_ret, retF_ex, retF_next, R.bind_ok, R.bind_ex, R.of_some, getE_z, getE_s, getE_n, ev_c, ev_v, kVar_fz, kVar_ow, ev_g, kPure_some, kBool_some, ev_tup, ev_lst, ev_bin, kBin_eq, kBin2_eq, ev_cmp, kCmp_eq, kCmp2_eq, ev_chain, kChain_eq, kChain2_eq, kChain3_t, kChain3_f, ev_isN, ev_notN, ev_not, kNot_eq, ev_and, kAnd_bl, kAnd2_t, kAnd2_f, ev_or, kOr_bl, kOr_lst, kOr2_t, kOr2_f, ev_ife, kIfe_eq, kIfe2_t, kIfe2_f, ev_sub, kSub_eq, kSub2_int, ev_slc, kSlc_eq, kSlc2_eq, kSlc3_eq, ev_calln, ev_bi, kBi_1, kBi_2, ev_isi, kIsi_eq, ev_isx, kIsx_eq, ev_me, kMe2_1, es_n, es_c, kEs_eq, st_asg, st_ret, st_if, kIf_eq, kIf2_t, kIf2_f, st_for, st_unp, st_expr, kExpr_eq, st_rais, st_pass, st_try, kTry_ok, st_set, st_fz, kFz_fz, kFz_no, kOwn_lst, kAsg_eq, kRet_eq, kSto_ok, kIsN_eq, kSeq_ok, Nat.reduceLeDiff, beq_tf, beq_ft, beq_tt, beq_ff, isNon_int, isNon_str, isNon_lst, isNon_tup, isNon_exc, isNon_bl, isNon_non, isOwn_exc, kUnp_2, kUnp_3, res_int, res_bl, res_str, res_lst, res_tup, res_non, nst_c, nst_v, nst_ov, nst_g, nst_tup, nst_lst, nst_bin, nst_neg, nst_cmp, nst_chain, nst_isN, nst_notN, nst_not, nst_and, nst_or, nst_ife, nst_sub, nst_slc, nst_rev, nst_call, nst_call1, nst_bi, nst_isi, nst_isx, nst_me, nst_pop, nst_popAt, nst_comp, nst_bad, isOwn_int, isOwn_bl, isOwn_str, isOwn_non, isOwn_tup, isOwn_lst, isOwn_own, decide_true, decide_false, truth_bl, if_true, if_false, Bool.false_eq_true, lockOf_zo, lockOf_zf, lockOf_zn, lockOf_s, lockOf_n, List.length_cons, List.length_nil, List.set_cons_zero, List.set_cons_succ, Nat.reduceAdd, Nat.reduceLT, ownsX_z, ownsX_s, ownsL_z, ownsL_s, Bool.not_true, Bool.not_false, outsE, bop_add, bop_sub, cop_gt, cop_ge, cop_lt, cop_le, bi_int, bi_intb, bi_abs, bi_lenL, bi_lenT, List.any_cons, List.any_nil, Bool.or_false, Bool.false_or, tb, s_bl, kMe_eq, hmt, hm, cop_neI, s_bad, List.map, c22, sub20, sub21, s_e, cop_eqS, hx0] at h2
  exact ⟨_, hx.trans h2.symm⟩
theorem told_e2 (hp : p.length ≤ 300) {x y : List Nat} (hx0 : x ≠ []) (hy : y.length ≤ 300) (h : TL.spl [32] 0 [] p = [x, 48 :: y]) : ∃ e, evSs T (callF T k) (lkT l) tb (ev6 l acc (.fz (st p)) e5 e6) = .ok (.ret (st [98, 97, 100]), e) := by
  have hm := me_spl32 (l := p) (by omega)
  rw [h] at hm
  have hmt : meTy .split (st p) = true := rfl
  have c22 : (((2 : Nat) : Int) = 2) = True := by simp
  have hy0 : ¬ (48 :: y = []) := by simp
  obtain ⟨z, hx⟩ : ∃ x, evSs T (callF T k) (lkT l) tb (ev6 l acc (.fz (st p)) e5 e6) = x := ⟨_, rfl⟩
  have h2 := hx
  simp -implicitDefEqProofs only [List.replicate, List.cons_append, List.nil_append, evSs_c, evSs_n, thenS_next, thenS_ret, thenS_brk, thenS_cont, thenS_ex, retF_ret, retF_ex, retF_next, R.bind_ok, R.bind_ex, R.of_some, getE_z, getE_s, getE_n, ev_c, ev_v, kVar_fz, kVar_ow, ev_g, kPure_some, kBool_some, ev_tup, ev_lst, ev_bin, kBin_eq, kBin2_eq, ev_cmp, kCmp_eq, kCmp2_eq, ev_chain, kChain_eq, kChain2_eq, kChain3_t, kChain3_f, ev_isN, ev_notN, ev_not, kNot_eq, ev_and, kAnd_bl, kAnd2_t, kAnd2_f, ev_or, kOr_bl, kOr_lst, kOr2_t, kOr2_f, ev_ife, kIfe_eq, kIfe2_t, kIfe2_f, ev_sub, kSub_eq, kSub2_int, ev_slc, kSlc_eq, kSlc2_eq, kSlc3_eq, ev_calln, ev_bi, kBi_1, kBi_2, ev_isi, kIsi_eq, ev_isx, kIsx_eq, ev_me, kMe2_1, es_n, es_c, kEs_eq, st_asg, st_ret, st_if, kIf_eq, kIf2_t, kIf2_f, st_for, st_unp, st_expr, kExpr_eq, st_rais, st_pass, st_try, kTry_ok, st_set, st_fz, kFz_fz, kFz_no, kOwn_lst, kAsg_eq, kRet_eq, kSto_ok, kIsN_eq, kSeq_ok, Nat.reduceLeDiff, beq_tf, beq_ft, beq_tt, beq_ff, isNon_int, isNon_str, isNon_lst, isNon_tup, isNon_exc, isNon_bl, isNon_non, isOwn_exc, kUnp_2, kUnp_3, res_int, res_bl, res_str, res_lst, res_tup, res_non, nst_c, nst_v, nst_ov, nst_g, nst_tup, nst_lst, nst_bin, nst_neg, nst_cmp, nst_chain, nst_isN, nst_notN, nst_not, nst_and, nst_or, nst_ife, nst_sub, nst_slc, nst_rev, nst_call, nst_call1, nst_bi, nst_isi, nst_isx, nst_me, nst_pop, nst_popAt, nst_comp, nst_bad, isOwn_int, isOwn_bl, isOwn_str, isOwn_non, isOwn_tup, isOwn_lst, isOwn_own, decide_true, decide_false, truth_bl, if_true, if_false, Bool.false_eq_true, lockOf_zo, lockOf_zf, lockOf_zn, lockOf_s, lockOf_n, List.length_cons, List.length_nil, List.set_cons_zero, List.set_cons_succ, Nat.reduceAdd, Nat.reduceLT, ownsX_z, ownsX_s, ownsL_z, ownsL_s, Bool.not_true, Bool.not_false, outsE, bop_add, bop_sub, cop_gt, cop_ge, cop_lt, cop_le, bi_int, bi_intb, bi_abs, bi_lenL, bi_lenT, List.any_cons, List.any_nil, Bool.or_false, Bool.false_or, tb, s_bl, kMe_eq, hmt, hm, cop_neI, s_bad, List.map, c22, sub20, sub21, s_e, s_0, cop_eqS, hx0, hy0, sub_st 48 y (by omega)] at h2
  exact ⟨_, hx.trans h2.symm⟩
end
end K90

set_option linter.all false
set_option Elab.async false
set_option maxRecDepth 100000
/-! P90g: the law's own reading, its loop (own work; printed from P90g.tpl by exp.py). -/
namespace K90
open IV

theorem evTs_1 {C : Nat → Env → R (D × Env)} {lk : Lk} {e : IE} {env : Env} {b : Bool} (h : evE T C lk e env = .ok (.bl b, env)) : evTs T C lk [e] env = .ok (b, env) := by
  rw [evTs, h]
  simp only [R.bind_ok, res_bl, truth_bl, R.of_some]
  cases b with
  | true => rw [if_pos rfl, evTs_nil]
  | false => rw [if_neg (by decide)]
theorem cop_leS (a b : List Nat) : cop .le (st a) (st b) = some (!decide (b < a)) := rfl
theorem cop_geS (a b : List Nat) : cop .ge (st a) (st b) = some (!decide (a < b)) := rfl
theorem notin_st (c : Nat) (l : List Nat) : cop .notin (st [c]) (st l) = some (!decide (c ∈ l)) := rfl
theorem one_lt (a b : Nat) : (([a] : List Nat) < [b]) ↔ a < b := by
  constructor
  · intro h
    cases h with
    | rel h => exact h
    | cons h => cases h
  · exact fun h => .rel h
theorem let_iff (c : Nat) : c ∈ LET ↔ 97 ≤ c ∧ c ≤ 122 := by
  simp [LET]; omega
/-- signs that are none of these -/
def nl (c : Nat) : Bool := !decide (c ∈ LET)
def nd (c : Nat) : Bool := !decide (c ∈ DIG)
section
variable {k : Nat} {l x y : List Nat} {acc : List D} {e2 e6 : Ent}
abbrev W (x y : List Nat) : Ent := .fz (.lst [st x, st y])
theorem odd1 (hx : x.length ≤ 300) : evE T (callF T k) (lkT l) (.comp [7] (.n 7) .seq [(.sub (.v 5) (.c (.int 0)))] [(.not (.chain .le .le (.c (.str "a")) (.v 7) (.c (.str "z"))))] true (.v 7)) (ev6 l acc e2 (W x y) e6) = .ok (.lst ((x.filter nl).map fun c => st [c]), ev6 l acc e2 (W x y) e6) := by
  rw [ev_comp1 (ds := [st x]) (xs := chars ⟨⟨x⟩⟩) (t := fun d => nl (first d)) (g := fun d => d) ?_ rfl rfl (show 7 < 9 by decide) rfl rfl ?_ ?_]
  · rw [chars_st, List.filter_map, List.map_map]; rfl
  · simp -implicitDefEqProofs only [List.replicate, List.cons_append, List.nil_append, evSs_c, evSs_n, thenS_next, thenS_ret, thenS_brk, thenS_cont, thenS_ex, retF_ret, retF_ex, retF_next, R.bind_ok, R.bind_ex, R.of_some, getE_z, getE_s, getE_n, ev_c, ev_v, kVar_fz, kVar_ow, ev_g, kPure_some, kBool_some, ev_tup, ev_lst, ev_bin, kBin_eq, kBin2_eq, ev_cmp, kCmp_eq, kCmp2_eq, ev_chain, kChain_eq, kChain2_eq, kChain3_t, kChain3_f, ev_isN, ev_notN, ev_not, kNot_eq, ev_and, kAnd_bl, kAnd2_t, kAnd2_f, ev_or, kOr_bl, kOr_lst, kOr2_t, kOr2_f, ev_ife, kIfe_eq, kIfe2_t, kIfe2_f, ev_sub, kSub_eq, kSub2_int, ev_slc, kSlc_eq, kSlc2_eq, kSlc3_eq, ev_calln, ev_bi, kBi_1, kBi_2, ev_isi, kIsi_eq, ev_isx, kIsx_eq, ev_me, kMe2_1, es_n, es_c, kEs_eq, st_asg, st_ret, st_if, kIf_eq, kIf2_t, kIf2_f, st_for, st_unp, st_expr, kExpr_eq, st_rais, st_pass, st_try, kTry_ok, st_set, st_fz, kFz_fz, kFz_no, kOwn_lst, kAsg_eq, kRet_eq, kSto_ok, kIsN_eq, kSeq_ok, Nat.reduceLeDiff, beq_tf, beq_ft, beq_tt, beq_ff, isNon_int, isNon_str, isNon_lst, isNon_tup, isNon_exc, isNon_bl, isNon_non, isOwn_exc, kUnp_2, kUnp_3, res_int, res_bl, res_str, res_lst, res_tup, res_non, nst_c, nst_v, nst_ov, nst_g, nst_tup, nst_lst, nst_bin, nst_neg, nst_cmp, nst_chain, nst_isN, nst_notN, nst_not, nst_and, nst_or, nst_ife, nst_sub, nst_slc, nst_rev, nst_call, nst_call1, nst_bi, nst_isi, nst_isx, nst_me, nst_pop, nst_popAt, nst_comp, nst_bad, isOwn_int, isOwn_bl, isOwn_str, isOwn_non, isOwn_tup, isOwn_lst, isOwn_own, decide_true, decide_false, truth_bl, if_true, if_false, Bool.false_eq_true, lockOf_zo, lockOf_zf, lockOf_zn, lockOf_s, lockOf_n, List.length_cons, List.length_nil, List.set_cons_zero, List.set_cons_succ, Nat.reduceAdd, Nat.reduceLT, ownsX_z, ownsX_s, ownsL_z, ownsL_s, Bool.not_true, Bool.not_false, outsE, bop_add, bop_sub, cop_gt, cop_ge, cop_lt, cop_le, bi_int, bi_intb, bi_abs, bi_lenL, bi_lenT, List.any_cons, List.any_nil, Bool.or_false, Bool.false_or, sub20]
  · intro d hd
    rw [chars_st] at hd
    obtain ⟨c, hc, rfl⟩ := List.mem_map.mp hd
    refine ⟨rfl, evTs_1 ?_, fun _ => ⟨?_, rfl⟩⟩
    · have e0 : nl (first (st [c])) = nl c := rfl
      by_cases h1 : ([c] : List Nat) < [97]
      · simp -implicitDefEqProofs only [List.replicate, List.cons_append, List.nil_append, evSs_c, evSs_n, thenS_next, thenS_ret, thenS_brk, thenS_cont, thenS_ex, retF_ret, retF_ex, retF_next, R.bind_ok, R.bind_ex, R.of_some, getE_z, getE_s, getE_n, ev_c, ev_v, kVar_fz, kVar_ow, ev_g, kPure_some, kBool_some, ev_tup, ev_lst, ev_bin, kBin_eq, kBin2_eq, ev_cmp, kCmp_eq, kCmp2_eq, ev_chain, kChain_eq, kChain2_eq, kChain3_t, kChain3_f, ev_isN, ev_notN, ev_not, kNot_eq, ev_and, kAnd_bl, kAnd2_t, kAnd2_f, ev_or, kOr_bl, kOr_lst, kOr2_t, kOr2_f, ev_ife, kIfe_eq, kIfe2_t, kIfe2_f, ev_sub, kSub_eq, kSub2_int, ev_slc, kSlc_eq, kSlc2_eq, kSlc3_eq, ev_calln, ev_bi, kBi_1, kBi_2, ev_isi, kIsi_eq, ev_isx, kIsx_eq, ev_me, kMe2_1, es_n, es_c, kEs_eq, st_asg, st_ret, st_if, kIf_eq, kIf2_t, kIf2_f, st_for, st_unp, st_expr, kExpr_eq, st_rais, st_pass, st_try, kTry_ok, st_set, st_fz, kFz_fz, kFz_no, kOwn_lst, kAsg_eq, kRet_eq, kSto_ok, kIsN_eq, kSeq_ok, Nat.reduceLeDiff, beq_tf, beq_ft, beq_tt, beq_ff, isNon_int, isNon_str, isNon_lst, isNon_tup, isNon_exc, isNon_bl, isNon_non, isOwn_exc, kUnp_2, kUnp_3, res_int, res_bl, res_str, res_lst, res_tup, res_non, nst_c, nst_v, nst_ov, nst_g, nst_tup, nst_lst, nst_bin, nst_neg, nst_cmp, nst_chain, nst_isN, nst_notN, nst_not, nst_and, nst_or, nst_ife, nst_sub, nst_slc, nst_rev, nst_call, nst_call1, nst_bi, nst_isi, nst_isx, nst_me, nst_pop, nst_popAt, nst_comp, nst_bad, isOwn_int, isOwn_bl, isOwn_str, isOwn_non, isOwn_tup, isOwn_lst, isOwn_own, decide_true, decide_false, truth_bl, if_true, if_false, Bool.false_eq_true, lockOf_zo, lockOf_zf, lockOf_zn, lockOf_s, lockOf_n, List.length_cons, List.length_nil, List.set_cons_zero, List.set_cons_succ, Nat.reduceAdd, Nat.reduceLT, ownsX_z, ownsX_s, ownsL_z, ownsL_s, Bool.not_true, Bool.not_false, outsE, bop_add, bop_sub, cop_gt, cop_ge, cop_lt, cop_le, bi_int, bi_intb, bi_abs, bi_lenL, bi_lenT, List.any_cons, List.any_nil, Bool.or_false, Bool.false_or, s_a, s_z, cop_leS, h1]
        have : nl (first (st [c])) = true := by
          rw [e0]; unfold nl
          have := (one_lt c 97).mp h1
          rw [decide_eq_false (by rw [let_iff]; omega)]; rfl
        rw [this]
      · simp -implicitDefEqProofs only [List.replicate, List.cons_append, List.nil_append, evSs_c, evSs_n, thenS_next, thenS_ret, thenS_brk, thenS_cont, thenS_ex, retF_ret, retF_ex, retF_next, R.bind_ok, R.bind_ex, R.of_some, getE_z, getE_s, getE_n, ev_c, ev_v, kVar_fz, kVar_ow, ev_g, kPure_some, kBool_some, ev_tup, ev_lst, ev_bin, kBin_eq, kBin2_eq, ev_cmp, kCmp_eq, kCmp2_eq, ev_chain, kChain_eq, kChain2_eq, kChain3_t, kChain3_f, ev_isN, ev_notN, ev_not, kNot_eq, ev_and, kAnd_bl, kAnd2_t, kAnd2_f, ev_or, kOr_bl, kOr_lst, kOr2_t, kOr2_f, ev_ife, kIfe_eq, kIfe2_t, kIfe2_f, ev_sub, kSub_eq, kSub2_int, ev_slc, kSlc_eq, kSlc2_eq, kSlc3_eq, ev_calln, ev_bi, kBi_1, kBi_2, ev_isi, kIsi_eq, ev_isx, kIsx_eq, ev_me, kMe2_1, es_n, es_c, kEs_eq, st_asg, st_ret, st_if, kIf_eq, kIf2_t, kIf2_f, st_for, st_unp, st_expr, kExpr_eq, st_rais, st_pass, st_try, kTry_ok, st_set, st_fz, kFz_fz, kFz_no, kOwn_lst, kAsg_eq, kRet_eq, kSto_ok, kIsN_eq, kSeq_ok, Nat.reduceLeDiff, beq_tf, beq_ft, beq_tt, beq_ff, isNon_int, isNon_str, isNon_lst, isNon_tup, isNon_exc, isNon_bl, isNon_non, isOwn_exc, kUnp_2, kUnp_3, res_int, res_bl, res_str, res_lst, res_tup, res_non, nst_c, nst_v, nst_ov, nst_g, nst_tup, nst_lst, nst_bin, nst_neg, nst_cmp, nst_chain, nst_isN, nst_notN, nst_not, nst_and, nst_or, nst_ife, nst_sub, nst_slc, nst_rev, nst_call, nst_call1, nst_bi, nst_isi, nst_isx, nst_me, nst_pop, nst_popAt, nst_comp, nst_bad, isOwn_int, isOwn_bl, isOwn_str, isOwn_non, isOwn_tup, isOwn_lst, isOwn_own, decide_true, decide_false, truth_bl, if_true, if_false, Bool.false_eq_true, lockOf_zo, lockOf_zf, lockOf_zn, lockOf_s, lockOf_n, List.length_cons, List.length_nil, List.set_cons_zero, List.set_cons_succ, Nat.reduceAdd, Nat.reduceLT, ownsX_z, ownsX_s, ownsL_z, ownsL_s, Bool.not_true, Bool.not_false, outsE, bop_add, bop_sub, cop_gt, cop_ge, cop_lt, cop_le, bi_int, bi_intb, bi_abs, bi_lenL, bi_lenT, List.any_cons, List.any_nil, Bool.or_false, Bool.false_or, s_a, s_z, cop_leS, h1]
        have : nl (first (st [c])) = !!decide (([122] : List Nat) < [c]) := by
          rw [e0]; unfold nl
          have h1' : ¬ c < 97 := fun q => h1 ((one_lt c 97).mpr q)
          rw [Bool.not_not, Bool.eq_iff_iff]
          simp only [Bool.not_eq_true', decide_eq_false_iff_not, decide_eq_true_eq, let_iff, one_lt]
          omega
        rw [this]
    · simp -implicitDefEqProofs only [List.replicate, List.cons_append, List.nil_append, evSs_c, evSs_n, thenS_next, thenS_ret, thenS_brk, thenS_cont, thenS_ex, retF_ret, retF_ex, retF_next, R.bind_ok, R.bind_ex, R.of_some, getE_z, getE_s, getE_n, ev_c, ev_v, kVar_fz, kVar_ow, ev_g, kPure_some, kBool_some, ev_tup, ev_lst, ev_bin, kBin_eq, kBin2_eq, ev_cmp, kCmp_eq, kCmp2_eq, ev_chain, kChain_eq, kChain2_eq, kChain3_t, kChain3_f, ev_isN, ev_notN, ev_not, kNot_eq, ev_and, kAnd_bl, kAnd2_t, kAnd2_f, ev_or, kOr_bl, kOr_lst, kOr2_t, kOr2_f, ev_ife, kIfe_eq, kIfe2_t, kIfe2_f, ev_sub, kSub_eq, kSub2_int, ev_slc, kSlc_eq, kSlc2_eq, kSlc3_eq, ev_calln, ev_bi, kBi_1, kBi_2, ev_isi, kIsi_eq, ev_isx, kIsx_eq, ev_me, kMe2_1, es_n, es_c, kEs_eq, st_asg, st_ret, st_if, kIf_eq, kIf2_t, kIf2_f, st_for, st_unp, st_expr, kExpr_eq, st_rais, st_pass, st_try, kTry_ok, st_set, st_fz, kFz_fz, kFz_no, kOwn_lst, kAsg_eq, kRet_eq, kSto_ok, kIsN_eq, kSeq_ok, Nat.reduceLeDiff, beq_tf, beq_ft, beq_tt, beq_ff, isNon_int, isNon_str, isNon_lst, isNon_tup, isNon_exc, isNon_bl, isNon_non, isOwn_exc, kUnp_2, kUnp_3, res_int, res_bl, res_str, res_lst, res_tup, res_non, nst_c, nst_v, nst_ov, nst_g, nst_tup, nst_lst, nst_bin, nst_neg, nst_cmp, nst_chain, nst_isN, nst_notN, nst_not, nst_and, nst_or, nst_ife, nst_sub, nst_slc, nst_rev, nst_call, nst_call1, nst_bi, nst_isi, nst_isx, nst_me, nst_pop, nst_popAt, nst_comp, nst_bad, isOwn_int, isOwn_bl, isOwn_str, isOwn_non, isOwn_tup, isOwn_lst, isOwn_own, decide_true, decide_false, truth_bl, if_true, if_false, Bool.false_eq_true, lockOf_zo, lockOf_zf, lockOf_zn, lockOf_s, lockOf_n, List.length_cons, List.length_nil, List.set_cons_zero, List.set_cons_succ, Nat.reduceAdd, Nat.reduceLT, ownsX_z, ownsX_s, ownsL_z, ownsL_s, Bool.not_true, Bool.not_false, outsE, bop_add, bop_sub, cop_gt, cop_ge, cop_lt, cop_le, bi_int, bi_intb, bi_abs, bi_lenL, bi_lenT, List.any_cons, List.any_nil, Bool.or_false, Bool.false_or]
  · rw [chars_st, List.length_map]; exact Nat.le_trans hx (by decide)
theorem odd2 (hy : y.length ≤ 300) : evE T (callF T k) (lkT l) (.comp [7] (.n 7) .seq [(.sub (.v 5) (.c (.int 1)))] [(.cmp .notin (.v 7) (.c (.str "0123456789")))] true (.v 7)) (ev6 l acc e2 (W x y) e6) = .ok (.lst ((y.filter nd).map fun c => st [c]), ev6 l acc e2 (W x y) e6) := by
  rw [ev_comp1 (ds := [st y]) (xs := chars ⟨⟨y⟩⟩) (t := fun d => nd (first d)) (g := fun d => d) ?_ rfl rfl (show 7 < 9 by decide) rfl rfl ?_ ?_]
  · rw [chars_st, List.filter_map, List.map_map]; rfl
  · simp -implicitDefEqProofs only [List.replicate, List.cons_append, List.nil_append, evSs_c, evSs_n, thenS_next, thenS_ret, thenS_brk, thenS_cont, thenS_ex, retF_ret, retF_ex, retF_next, R.bind_ok, R.bind_ex, R.of_some, getE_z, getE_s, getE_n, ev_c, ev_v, kVar_fz, kVar_ow, ev_g, kPure_some, kBool_some, ev_tup, ev_lst, ev_bin, kBin_eq, kBin2_eq, ev_cmp, kCmp_eq, kCmp2_eq, ev_chain, kChain_eq, kChain2_eq, kChain3_t, kChain3_f, ev_isN, ev_notN, ev_not, kNot_eq, ev_and, kAnd_bl, kAnd2_t, kAnd2_f, ev_or, kOr_bl, kOr_lst, kOr2_t, kOr2_f, ev_ife, kIfe_eq, kIfe2_t, kIfe2_f, ev_sub, kSub_eq, kSub2_int, ev_slc, kSlc_eq, kSlc2_eq, kSlc3_eq, ev_calln, ev_bi, kBi_1, kBi_2, ev_isi, kIsi_eq, ev_isx, kIsx_eq, ev_me, kMe2_1, es_n, es_c, kEs_eq, st_asg, st_ret, st_if, kIf_eq, kIf2_t, kIf2_f, st_for, st_unp, st_expr, kExpr_eq, st_rais, st_pass, st_try, kTry_ok, st_set, st_fz, kFz_fz, kFz_no, kOwn_lst, kAsg_eq, kRet_eq, kSto_ok, kIsN_eq, kSeq_ok, Nat.reduceLeDiff, beq_tf, beq_ft, beq_tt, beq_ff, isNon_int, isNon_str, isNon_lst, isNon_tup, isNon_exc, isNon_bl, isNon_non, isOwn_exc, kUnp_2, kUnp_3, res_int, res_bl, res_str, res_lst, res_tup, res_non, nst_c, nst_v, nst_ov, nst_g, nst_tup, nst_lst, nst_bin, nst_neg, nst_cmp, nst_chain, nst_isN, nst_notN, nst_not, nst_and, nst_or, nst_ife, nst_sub, nst_slc, nst_rev, nst_call, nst_call1, nst_bi, nst_isi, nst_isx, nst_me, nst_pop, nst_popAt, nst_comp, nst_bad, isOwn_int, isOwn_bl, isOwn_str, isOwn_non, isOwn_tup, isOwn_lst, isOwn_own, decide_true, decide_false, truth_bl, if_true, if_false, Bool.false_eq_true, lockOf_zo, lockOf_zf, lockOf_zn, lockOf_s, lockOf_n, List.length_cons, List.length_nil, List.set_cons_zero, List.set_cons_succ, Nat.reduceAdd, Nat.reduceLT, ownsX_z, ownsX_s, ownsL_z, ownsL_s, Bool.not_true, Bool.not_false, outsE, bop_add, bop_sub, cop_gt, cop_ge, cop_lt, cop_le, bi_int, bi_intb, bi_abs, bi_lenL, bi_lenT, List.any_cons, List.any_nil, Bool.or_false, Bool.false_or, sub21]
  · intro d hd
    rw [chars_st] at hd
    obtain ⟨c, hc, rfl⟩ := List.mem_map.mp hd
    refine ⟨rfl, evTs_1 ?_, fun _ => ⟨?_, rfl⟩⟩
    · simp -implicitDefEqProofs only [List.replicate, List.cons_append, List.nil_append, evSs_c, evSs_n, thenS_next, thenS_ret, thenS_brk, thenS_cont, thenS_ex, retF_ret, retF_ex, retF_next, R.bind_ok, R.bind_ex, R.of_some, getE_z, getE_s, getE_n, ev_c, ev_v, kVar_fz, kVar_ow, ev_g, kPure_some, kBool_some, ev_tup, ev_lst, ev_bin, kBin_eq, kBin2_eq, ev_cmp, kCmp_eq, kCmp2_eq, ev_chain, kChain_eq, kChain2_eq, kChain3_t, kChain3_f, ev_isN, ev_notN, ev_not, kNot_eq, ev_and, kAnd_bl, kAnd2_t, kAnd2_f, ev_or, kOr_bl, kOr_lst, kOr2_t, kOr2_f, ev_ife, kIfe_eq, kIfe2_t, kIfe2_f, ev_sub, kSub_eq, kSub2_int, ev_slc, kSlc_eq, kSlc2_eq, kSlc3_eq, ev_calln, ev_bi, kBi_1, kBi_2, ev_isi, kIsi_eq, ev_isx, kIsx_eq, ev_me, kMe2_1, es_n, es_c, kEs_eq, st_asg, st_ret, st_if, kIf_eq, kIf2_t, kIf2_f, st_for, st_unp, st_expr, kExpr_eq, st_rais, st_pass, st_try, kTry_ok, st_set, st_fz, kFz_fz, kFz_no, kOwn_lst, kAsg_eq, kRet_eq, kSto_ok, kIsN_eq, kSeq_ok, Nat.reduceLeDiff, beq_tf, beq_ft, beq_tt, beq_ff, isNon_int, isNon_str, isNon_lst, isNon_tup, isNon_exc, isNon_bl, isNon_non, isOwn_exc, kUnp_2, kUnp_3, res_int, res_bl, res_str, res_lst, res_tup, res_non, nst_c, nst_v, nst_ov, nst_g, nst_tup, nst_lst, nst_bin, nst_neg, nst_cmp, nst_chain, nst_isN, nst_notN, nst_not, nst_and, nst_or, nst_ife, nst_sub, nst_slc, nst_rev, nst_call, nst_call1, nst_bi, nst_isi, nst_isx, nst_me, nst_pop, nst_popAt, nst_comp, nst_bad, isOwn_int, isOwn_bl, isOwn_str, isOwn_non, isOwn_tup, isOwn_lst, isOwn_own, decide_true, decide_false, truth_bl, if_true, if_false, Bool.false_eq_true, lockOf_zo, lockOf_zf, lockOf_zn, lockOf_s, lockOf_n, List.length_cons, List.length_nil, List.set_cons_zero, List.set_cons_succ, Nat.reduceAdd, Nat.reduceLT, ownsX_z, ownsX_s, ownsL_z, ownsL_s, Bool.not_true, Bool.not_false, outsE, bop_add, bop_sub, cop_gt, cop_ge, cop_lt, cop_le, bi_int, bi_intb, bi_abs, bi_lenL, bi_lenT, List.any_cons, List.any_nil, Bool.or_false, Bool.false_or, s_dig, notin_st]
      rfl
    · simp -implicitDefEqProofs only [List.replicate, List.cons_append, List.nil_append, evSs_c, evSs_n, thenS_next, thenS_ret, thenS_brk, thenS_cont, thenS_ex, retF_ret, retF_ex, retF_next, R.bind_ok, R.bind_ex, R.of_some, getE_z, getE_s, getE_n, ev_c, ev_v, kVar_fz, kVar_ow, ev_g, kPure_some, kBool_some, ev_tup, ev_lst, ev_bin, kBin_eq, kBin2_eq, ev_cmp, kCmp_eq, kCmp2_eq, ev_chain, kChain_eq, kChain2_eq, kChain3_t, kChain3_f, ev_isN, ev_notN, ev_not, kNot_eq, ev_and, kAnd_bl, kAnd2_t, kAnd2_f, ev_or, kOr_bl, kOr_lst, kOr2_t, kOr2_f, ev_ife, kIfe_eq, kIfe2_t, kIfe2_f, ev_sub, kSub_eq, kSub2_int, ev_slc, kSlc_eq, kSlc2_eq, kSlc3_eq, ev_calln, ev_bi, kBi_1, kBi_2, ev_isi, kIsi_eq, ev_isx, kIsx_eq, ev_me, kMe2_1, es_n, es_c, kEs_eq, st_asg, st_ret, st_if, kIf_eq, kIf2_t, kIf2_f, st_for, st_unp, st_expr, kExpr_eq, st_rais, st_pass, st_try, kTry_ok, st_set, st_fz, kFz_fz, kFz_no, kOwn_lst, kAsg_eq, kRet_eq, kSto_ok, kIsN_eq, kSeq_ok, Nat.reduceLeDiff, beq_tf, beq_ft, beq_tt, beq_ff, isNon_int, isNon_str, isNon_lst, isNon_tup, isNon_exc, isNon_bl, isNon_non, isOwn_exc, kUnp_2, kUnp_3, res_int, res_bl, res_str, res_lst, res_tup, res_non, nst_c, nst_v, nst_ov, nst_g, nst_tup, nst_lst, nst_bin, nst_neg, nst_cmp, nst_chain, nst_isN, nst_notN, nst_not, nst_and, nst_or, nst_ife, nst_sub, nst_slc, nst_rev, nst_call, nst_call1, nst_bi, nst_isi, nst_isx, nst_me, nst_pop, nst_popAt, nst_comp, nst_bad, isOwn_int, isOwn_bl, isOwn_str, isOwn_non, isOwn_tup, isOwn_lst, isOwn_own, decide_true, decide_false, truth_bl, if_true, if_false, Bool.false_eq_true, lockOf_zo, lockOf_zf, lockOf_zn, lockOf_s, lockOf_n, List.length_cons, List.length_nil, List.set_cons_zero, List.set_cons_succ, Nat.reduceAdd, Nat.reduceLT, ownsX_z, ownsX_s, ownsL_z, ownsL_s, Bool.not_true, Bool.not_false, outsE, bop_add, bop_sub, cop_gt, cop_ge, cop_lt, cop_le, bi_int, bi_intb, bi_abs, bi_lenL, bi_lenT, List.any_cons, List.any_nil, Bool.or_false, Bool.false_or]
  · rw [chars_st, List.length_map]; exact Nat.le_trans hy (by decide)
theorem add_lst {a b : List D} (h : a.length + b.length ≤ 1000) : bop .add (.lst a) (.lst b) = some (.lst (a ++ b)) := if_pos (Nat.le_trans h (by decide))
theorem ne_nil {a : List Nat} (h : ∀ c ∈ a, c < 128) : cop .ne (.lst (a.map fun c => st [c])) (.lst []) = some (!decide (a = [])) := by
  have e : a.map (fun c => st [c]) = (a.map fun c => S [c]).map D.str := by rw [List.map_map]; rfl
  show (if _ || (plainDs 59 (a.map fun c => st [c]) && plainDs 59 []) then some (!deqs (a.map fun c => st [c]) []) else none) = _
  rw [e, plain_str (fun s hs => ?_), if_pos (by simp [plainDs])]
  · cases a <;> rfl
  · obtain ⟨c, hc, rfl⟩ := List.mem_map.mp hs
    show (Array.mk [c]).all (fun c => decide (c < 0x110000)) = true
    have := h c hc
    rw [← Array.all_toList]
    simp; omega
theorem told_more {p : List Nat} {e5 : Ent} (hp : p.length ≤ 300) (hA : ∀ c ∈ x ++ y, c < 128) (hx0 : x ≠ []) (hy0 : y ≠ []) (hh : y.head? ≠ some 48) (hx : x.length ≤ 300) (hy : y.length ≤ 300) (hacc : acc.length ≤ 400) (h : TL.spl [32] 0 [] p = [x, y]) :
    (x.filter nl ++ y.filter nd = [] → evSs T (callF T k) (lkT l) tb (ev6 l acc (.fz (st p)) e5 e6) = .ok (.next, ev6 l (acc ++ [.tup [st x, .int (PySem.NumText.digitsVal y)]]) (.fz (st p)) (W x y) (.fz (.lst [])))) ∧
    (x.filter nl ++ y.filter nd ≠ [] → ∃ e, evSs T (callF T k) (lkT l) tb (ev6 l acc (.fz (st p)) e5 e6) = .ok (.ret (st [98, 97, 100]), e)) := by
  have hm := me_spl32 (l := p) (by omega)
  rw [h] at hm
  have hmt : meTy .split (st p) = true := rfl
  have c22 : (((2 : Nat) : Int) = 2) = True := by simp
  obtain ⟨c, r, rfl⟩ : ∃ c r, y = c :: r := by cases y with | nil => exact absurd rfl hy0 | cons c r => exact ⟨c, r, rfl⟩
  have hc : ¬ (([c] : List Nat) = [48]) := by simpa using hh
  have hr : r.length ≤ 1000 := by simp at hy; omega
  have o1 := fun e2 e6 => odd1 (k := k) (l := l) (x := x) (y := c :: r) (acc := acc) (e2 := e2) (e6 := e6) hx
  have o2 := fun e2 e6 => odd2 (k := k) (l := l) (x := x) (y := c :: r) (acc := acc) (e2 := e2) (e6 := e6) hy
  have hadd : bop .add (.lst ((x.filter nl).map fun c => st [c])) (.lst (((c :: r).filter nd).map fun c => st [c])) = some (.lst ((x.filter nl ++ (c :: r).filter nd).map fun c => st [c])) := by
    rw [add_lst (by
      rw [List.length_map, List.length_map]
      have h1 := List.length_filter_le nl x
      have h2 := List.length_filter_le nd (c :: r)
      omega), List.map_append]
  have hne := ne_nil (a := x.filter nl ++ (c :: r).filter nd) fun z hz => hA z (by
    rcases List.mem_append.mp hz with q | q
    · exact List.mem_append.mpr (.inl (List.mem_filter.mp q).1)
    · exact List.mem_append.mpr (.inr (List.mem_filter.mp q).1))
  constructor
  · intro he
    rw [he] at hadd hne
    have hne' : cop .ne (.lst []) (.lst []) = some false := rfl
    have hd : (c :: r).all (fun c => decide (c ∈ DIG)) = true := by
      rw [List.all_eq_true]
      intro z hz
      cases q : decide (z ∈ DIG) with
      | true => rfl
      | false =>
        have : z ∈ (c :: r).filter nd := List.mem_filter.mpr ⟨hz, by unfold nd; rw [q]; rfl⟩
        rw [(List.append_eq_nil_iff.mp he).2] at this
        cases this
    have hi := int_dig hd hy0 (by omega)
    have hac : acc.length < line := Nat.lt_of_le_of_lt hacc (by decide)
    have hs := fun (d : D) (env : Env) => kApp_eq (i := 1) (d := d) (env := .fz (st l) :: .ow (.lst acc) :: env) (xs := acc)
    simp -implicitDefEqProofs only [List.replicate, List.cons_append, List.nil_append, evSs_c, evSs_n, thenS_next, thenS_ret, thenS_brk, thenS_cont, thenS_ex, retF_ret, retF_ex, retF_next, R.bind_ok, R.bind_ex, R.of_some, getE_z, getE_s, getE_n, ev_c, ev_v, kVar_fz, kVar_ow, ev_g, kPure_some, kBool_some, ev_tup, ev_lst, ev_bin, kBin_eq, kBin2_eq, ev_cmp, kCmp_eq, kCmp2_eq, ev_chain, kChain_eq, kChain2_eq, kChain3_t, kChain3_f, ev_isN, ev_notN, ev_not, kNot_eq, ev_and, kAnd_bl, kAnd2_t, kAnd2_f, ev_or, kOr_bl, kOr_lst, kOr2_t, kOr2_f, ev_ife, kIfe_eq, kIfe2_t, kIfe2_f, ev_sub, kSub_eq, kSub2_int, ev_slc, kSlc_eq, kSlc2_eq, kSlc3_eq, ev_calln, ev_bi, kBi_1, kBi_2, ev_isi, kIsi_eq, ev_isx, kIsx_eq, ev_me, kMe2_1, es_n, es_c, kEs_eq, st_asg, st_ret, st_if, kIf_eq, kIf2_t, kIf2_f, st_for, st_unp, st_expr, kExpr_eq, st_rais, st_pass, st_try, kTry_ok, st_set, st_fz, kFz_fz, kFz_no, kOwn_lst, kAsg_eq, kRet_eq, kSto_ok, kIsN_eq, kSeq_ok, Nat.reduceLeDiff, beq_tf, beq_ft, beq_tt, beq_ff, isNon_int, isNon_str, isNon_lst, isNon_tup, isNon_exc, isNon_bl, isNon_non, isOwn_exc, kUnp_2, kUnp_3, res_int, res_bl, res_str, res_lst, res_tup, res_non, nst_c, nst_v, nst_ov, nst_g, nst_tup, nst_lst, nst_bin, nst_neg, nst_cmp, nst_chain, nst_isN, nst_notN, nst_not, nst_and, nst_or, nst_ife, nst_sub, nst_slc, nst_rev, nst_call, nst_call1, nst_bi, nst_isi, nst_isx, nst_me, nst_pop, nst_popAt, nst_comp, nst_bad, isOwn_int, isOwn_bl, isOwn_str, isOwn_non, isOwn_tup, isOwn_lst, isOwn_own, decide_true, decide_false, truth_bl, if_true, if_false, Bool.false_eq_true, lockOf_zo, lockOf_zf, lockOf_zn, lockOf_s, lockOf_n, List.length_cons, List.length_nil, List.set_cons_zero, List.set_cons_succ, Nat.reduceAdd, Nat.reduceLT, ownsX_z, ownsX_s, ownsL_z, ownsL_s, Bool.not_true, Bool.not_false, outsE, bop_add, bop_sub, cop_gt, cop_ge, cop_lt, cop_le, bi_int, bi_intb, bi_abs, bi_lenL, bi_lenT, List.any_cons, List.any_nil, Bool.or_false, Bool.false_or, tb, s_bl, kMe_eq, hmt, hm, cop_neI, List.map, c22, sub20, sub21, s_e, s_0, cop_eqS, hx0, hy0, sub_st c r hr, hc, o1, o2, hadd, hne', st_app, hi, hs, hac]
  · intro he
    obtain ⟨z, hx⟩ : ∃ x, evSs T (callF T k) (lkT l) tb (ev6 l acc (.fz (st p)) e5 e6) = x := ⟨_, rfl⟩
    have h2 := hx
    simp -implicitDefEqProofs only [List.replicate, List.cons_append, List.nil_append, evSs_c, evSs_n, thenS_next, thenS_ret, thenS_brk, thenS_cont, thenS_ex, retF_ret, retF_ex, retF_next, R.bind_ok, R.bind_ex, R.of_some, getE_z, getE_s, getE_n, ev_c, ev_v, kVar_fz, kVar_ow, ev_g, kPure_some, kBool_some, ev_tup, ev_lst, ev_bin, kBin_eq, kBin2_eq, ev_cmp, kCmp_eq, kCmp2_eq, ev_chain, kChain_eq, kChain2_eq, kChain3_t, kChain3_f, ev_isN, ev_notN, ev_not, kNot_eq, ev_and, kAnd_bl, kAnd2_t, kAnd2_f, ev_or, kOr_bl, kOr_lst, kOr2_t, kOr2_f, ev_ife, kIfe_eq, kIfe2_t, kIfe2_f, ev_sub, kSub_eq, kSub2_int, ev_slc, kSlc_eq, kSlc2_eq, kSlc3_eq, ev_calln, ev_bi, kBi_1, kBi_2, ev_isi, kIsi_eq, ev_isx, kIsx_eq, ev_me, kMe2_1, es_n, es_c, kEs_eq, st_asg, st_ret, st_if, kIf_eq, kIf2_t, kIf2_f, st_for, st_unp, st_expr, kExpr_eq, st_rais, st_pass, st_try, kTry_ok, st_set, st_fz, kFz_fz, kFz_no, kOwn_lst, kAsg_eq, kRet_eq, kSto_ok, kIsN_eq, kSeq_ok, Nat.reduceLeDiff, beq_tf, beq_ft, beq_tt, beq_ff, isNon_int, isNon_str, isNon_lst, isNon_tup, isNon_exc, isNon_bl, isNon_non, isOwn_exc, kUnp_2, kUnp_3, res_int, res_bl, res_str, res_lst, res_tup, res_non, nst_c, nst_v, nst_ov, nst_g, nst_tup, nst_lst, nst_bin, nst_neg, nst_cmp, nst_chain, nst_isN, nst_notN, nst_not, nst_and, nst_or, nst_ife, nst_sub, nst_slc, nst_rev, nst_call, nst_call1, nst_bi, nst_isi, nst_isx, nst_me, nst_pop, nst_popAt, nst_comp, nst_bad, isOwn_int, isOwn_bl, isOwn_str, isOwn_non, isOwn_tup, isOwn_lst, isOwn_own, decide_true, decide_false, truth_bl, if_true, if_false, Bool.false_eq_true, lockOf_zo, lockOf_zf, lockOf_zn, lockOf_s, lockOf_n, List.length_cons, List.length_nil, List.set_cons_zero, List.set_cons_succ, Nat.reduceAdd, Nat.reduceLT, ownsX_z, ownsX_s, ownsL_z, ownsL_s, Bool.not_true, Bool.not_false, outsE, bop_add, bop_sub, cop_gt, cop_ge, cop_lt, cop_le, bi_int, bi_intb, bi_abs, bi_lenL, bi_lenT, List.any_cons, List.any_nil, Bool.or_false, Bool.false_or, tb, s_bl, kMe_eq, hmt, hm, cop_neI, List.map, c22, sub20, sub21, s_e, s_0, s_bad, cop_eqS, hx0, hy0, sub_st c r hr, hc, o1, o2, hadd, hne, he] at h2
    exact ⟨_, hx.trans h2.symm⟩
end
end K90

set_option linter.all false
set_option Elab.async false
set_option maxRecDepth 100000
/-! P90h: the law's own reading tells the same (own work; printed from P90h.tpl by exp.py). -/
namespace K90
open IV

theorem spl_pos (l : List Nat) : 1 ≤ (TL.spl [32] 0 [] l).length := by
  cases hp : TL.par [32] [] l with
  | none => rw [TL.spl_last1 (par_none hp)]; exact Nat.le_refl _
  | some xy =>
    obtain ⟨x, y⟩ := xy
    obtain ⟨p, h1, h2, h3⟩ := par_some hp
    have e : TL.spl [32] 0 [] l = ([] ++ p) :: TL.spl [32] 0 [] y := by rw [h2]; exact TL.spl_part1 (S := []) h3
    rw [e]; simp
theorem nd_mem {y : List Nat} (h : 32 ∈ y) : numIn y = .non := by
  unfold numIn
  split
  · rfl
  · rw [if_neg]
    intro q
    have := List.all_eq_true.mp q 32 h
    simp [DIG] at this
theorem digV_pos {y : List Nat} (c : Nat) (r : List Nat) (e : y = c :: r) (h : y.all (fun c => decide (c ∈ DIG)) = true) (hc : c ≠ 48) : PySem.NumText.digitsVal y ≠ 0 := by
  subst e
  have hd := dig_all h
  have hc1 := hd c List.mem_cons_self
  have mono : ∀ (r : List Nat) (a : Nat), 0 < a → 0 < r.foldl (fun acc c => acc * 10 + (c - 48)) a := fun r => by
    induction r with
    | nil => exact fun a ha => ha
    | cons d r ih => exact fun a ha => ih (a * 10 + (d - 48)) (by omega)
  have := mono r (0 * 10 + (c - 48)) (by omega)
  unfold PySem.NumText.digitsVal
  rw [List.foldl_cons]
  omega
section
variable {k : Nat} {l p : List Nat} {acc : List D} {e5 e6 : Ent}
theorem told_step (hp : p.length ≤ 300) (hA : ∀ c ∈ p, c < 128) (hacc : acc.length ≤ 400) :
    (okP p = true → ∃ e5' e6', evSs T (callF T k) (lkT l) tb (ev6 l acc (.fz (st p)) e5 e6) = .ok (.next, ev6 l (acc ++ [pairIn p]) (.fz (st p)) e5' e6')) ∧
    (okP p = false → ∃ e, evSs T (callF T k) (lkT l) tb (ev6 l acc (.fz (st p)) e5 e6) = .ok (.ret (st [98, 97, 100]), e)) := by
  cases hpar : TL.par [32] [] p with
  | none =>
    refine ⟨fun h => ?_, fun _ => told_len hp ?_⟩
    · unfold okP pairIn at h; rw [hpar] at h; cases h
    · rw [TL.spl_last1 (par_none hpar)]; simp
  | some xy =>
    obtain ⟨x, y⟩ := xy
    obtain ⟨q, h1, h2, h3⟩ := par_some hpar
    rw [List.nil_append] at h1
    subst h1
    have e : TL.spl [32] 0 [] p = ([] ++ x) :: TL.spl [32] 0 [] y := by rw [h2]; exact TL.spl_part1 (S := []) h3
    rw [List.nil_append] at e
    have hl : x.length + 1 + y.length ≤ 300 := by rw [h2] at hp; simp at hp; omega
    by_cases hy : 32 ∈ y
    · have hn := nd_mem hy
      refine ⟨fun h => ?_, fun _ => told_len hp ?_⟩
      · unfold okP pairIn at h
        rw [hpar] at h
        simp only [hn] at h
        split at h <;> cases h
      · cases hp2 : TL.par [32] [] y with
        | none => exact absurd hy (par_none hp2)
        | some xy =>
          obtain ⟨x2, y2⟩ := xy
          obtain ⟨q2, g1, g2, g3⟩ := par_some hp2
          have e2 : TL.spl [32] 0 [] y = ([] ++ q2) :: TL.spl [32] 0 [] y2 := by rw [g2]; exact TL.spl_part1 (S := []) g3
          have := spl_pos y2
          rw [e, e2, List.length_cons, List.length_cons]; omega
    · rw [TL.spl_last1 hy, List.nil_append] at e
      by_cases hx0 : x = []
      · subst hx0
        refine ⟨fun h => ?_, fun _ => told_e0 hp e⟩
        unfold okP pairIn at h; rw [hpar] at h; cases h
      · by_cases hy0 : y = []
        · subst hy0
          refine ⟨fun h => ?_, fun _ => told_e1 hp hx0 e⟩
          unfold okP pairIn at h
          rw [hpar] at h
          simp only [show numIn [] = D.non from rfl] at h
          split at h <;> cases h
        · obtain ⟨c, r, rfl⟩ : ∃ c r, y = c :: r := by cases y with | nil => exact absurd rfl hy0 | cons c r => exact ⟨c, r, rfl⟩
          by_cases hc : c = 48
          · subst hc
            refine ⟨fun h => ?_, fun _ => told_e2 hp hx0 (by simp at hl; omega) e⟩
            unfold okP pairIn at h
            rw [hpar] at h
            simp only at h
            have hz : numIn (48 :: r) = .non ∨ numIn (48 :: r) = .int 0 := by
              unfold numIn
              rw [if_neg (by simp)]
              split
              · split
                · exact .inl rfl
                · rename_i h48
                  have : 48 :: r = [48] := by
                    by_cases q : 48 :: r = [48]
                    · exact q
                    · exact absurd ⟨rfl, q⟩ h48
                  rw [this]; exact .inr rfl
              · exact .inl rfl
            rcases hz with hz | hz
            · rw [hz] at h; simp only at h; split at h <;> cases h
            · rw [hz] at h
              simp only [if_true] at h
              split at h <;> cases h
          · have hh : (c :: r).head? ≠ some 48 := by simp [hc]
            obtain ⟨m1, m2⟩ := told_more (k := k) (l := l) (acc := acc) (e5 := e5) (e6 := e6) hp (fun z hz => hA z (by rw [h2]; exact (List.mem_append.mp hz).elim (fun q => List.mem_append.mpr (.inl q)) (fun q => List.mem_append.mpr (.inr (List.mem_cons_of_mem _ q))))) hx0 hy0 hh (by omega) (by omega) hacc e
            have key : okP p = true ↔ x.filter nl ++ (c :: r).filter nd = [] := by
              have hk : kindB x = true ↔ x.filter nl = [] := by
                unfold kindB
                rw [List.filter_eq_nil_iff]
                simp [hx0, nl]
              have hdg : (c :: r).all (fun c => decide (c ∈ DIG)) = true ↔ (c :: r).filter nd = [] := by
                rw [List.filter_eq_nil_iff, List.all_eq_true]
                simp [nd]
              rw [List.append_eq_nil_iff, ← hk, ← hdg]
              unfold okP pairIn
              rw [hpar]
              simp only
              cases q1 : kindB x with
              | false => simp [isNon]
              | true =>
                simp only [if_true]
                cases q2 : (c :: r).all (fun c => decide (c ∈ DIG)) with
                | false =>
                  have : numIn (c :: r) = .non := by unfold numIn; rw [if_neg hy0, q2]; rfl
                  rw [this]; simp [isNon]
                | true =>
                  have : numIn (c :: r) = .int (PySem.NumText.digitsVal (c :: r)) := by
                    unfold numIn
                    rw [if_neg hy0, q2, if_pos rfl, if_neg (by simp [hc])]
                  rw [this]
                  have hz := digV_pos c r rfl q2 hc
                  simp [isNon, hz]
            refine ⟨fun h => ?_, fun h => m2 fun z => ?_⟩
            · obtain ⟨n, en, hk2, _⟩ := okP_tup h
              have hn : pairIn p = .tup [st x, .int (PySem.NumText.digitsVal (c :: r))] := by
                have hz := key.mp h
                have hdg : (c :: r).all (fun c => decide (c ∈ DIG)) = true := by
                  rw [List.all_eq_true]
                  have := (List.append_eq_nil_iff.mp hz).2
                  rw [List.filter_eq_nil_iff] at this
                  intro z hz
                  have := this z hz
                  unfold nd at this
                  simpa using this
                have hnum : numIn (c :: r) = .int (PySem.NumText.digitsVal (c :: r)) := by
                  unfold numIn
                  rw [if_neg hy0, hdg, if_pos rfl, if_neg (by simp [hc])]
                have hkx : kindB x = true := by
                  have : name p = x := by unfold name; rw [hpar]
                  rw [← this]; exact hk2
                have hz := digV_pos c r rfl hdg hc
                unfold pairIn
                rw [hpar]
                simp only [hkx, hnum, if_true]
                rw [if_neg (by omega)]
              rw [hn]
              exact ⟨_, _, m1 (key.mp h)⟩
            · rw [key.mpr z] at h; cases h
/-- the law's loop over the parts -/
def stepT (k : Nat) (l : List Nat) : D → Env → R (Fl × Env) := fun x env1 => (R.of (tgE (lkT l) (.n 2) x env1)).bind fun env2 => evSs T (callF T k) (lkT l) tb env2
theorem told_loop : ∀ (ps : List (List Nat)) (acc : List D) (e2 e5 e6 : Ent), (∀ p ∈ ps, p.length ≤ 300 ∧ ∀ c ∈ p, c < 128) → acc.length + ps.length ≤ 400 →
    (ps.all okP = true → ∃ e2' e5' e6', loopS (stepT k l) (ps.map st) (ev6 l acc e2 e5 e6) = .ok (.next, ev6 l (acc ++ ps.map pairIn) e2' e5' e6')) ∧
    (ps.all okP = false → ∃ e, loopS (stepT k l) (ps.map st) (ev6 l acc e2 e5 e6) = .ok (.ret (st [98, 97, 100]), e))
  | [], acc, e2, e5, e6, _, _ => ⟨fun _ => ⟨e2, e5, e6, by rw [List.map_nil, List.map_nil, List.append_nil]; rfl⟩, fun h => by cases h⟩
  | p :: ps, acc, e2, e5, e6, hps, hl => by
    obtain ⟨g1, g2⟩ := hps p List.mem_cons_self
    simp only [List.length_cons] at hl
    obtain ⟨s1, s2⟩ := told_step (k := k) (l := l) (acc := acc) (e5 := e5) (e6 := e6) g1 g2 (by omega)
    have hst : stepT k l (st p) (ev6 l acc e2 e5 e6) = evSs T (callF T k) (lkT l) tb (ev6 l acc (.fz (st p)) e5 e6) := rfl
    have ih := told_loop ps
    constructor
    · intro h
      rw [List.all_cons, Bool.and_eq_true] at h
      obtain ⟨e5', e6', h1⟩ := s1 h.1
      obtain ⟨a1, a2, a3, h2⟩ := (ih (acc ++ [pairIn p]) (.fz (st p)) e5' e6' (fun q hq => hps q (List.mem_cons_of_mem _ hq)) (by simp; omega)).1 h.2
      refine ⟨a1, a2, a3, ?_⟩
      rw [List.map_cons, loopS, hst, h1]
      simp only [R.bind_ok]
      rw [h2, List.append_assoc]
      rfl
    · intro h
      rw [List.all_cons] at h
      cases ho : okP p with
      | false =>
        obtain ⟨e, h1⟩ := s2 ho
        exact ⟨e, by rw [List.map_cons, loopS, hst, h1]; rfl⟩
      | true =>
        rw [ho, Bool.true_and] at h
        obtain ⟨e5', e6', h1⟩ := s1 ho
        obtain ⟨e, h2⟩ := (ih (acc ++ [pairIn p]) (.fz (st p)) e5' e6' (fun q hq => hps q (List.mem_cons_of_mem _ hq)) (by simp; omega)).2 h
        exact ⟨e, by rw [List.map_cons, loopS, hst, h1]; exact h2⟩
end
end K90

set_option linter.all false
set_option Elab.async false
set_option maxRecDepth 100000
/-! P90i: told is heard (own work; printed from P90i.tpl by exp.py). -/
namespace K90
open IV

theorem mem_rangeD {d : D} : ∀ {n : Nat} {lo : Int}, d ∈ rangeD lo n → ∃ i, lo ≤ i ∧ i < lo + n ∧ d = .int i
  | 0, lo, h => by cases h
  | n + 1, lo, h => by
    rcases List.mem_cons.mp (show d ∈ D.int lo :: rangeD (lo + 1) n from h) with rfl | h
    · exact ⟨lo, by omega, by omega, rfl⟩
    · obtain ⟨i, h1, h2, h3⟩ := mem_rangeD h
      exact ⟨i, by omega, by omega, h3⟩
theorem rangeD_mem {i : Int} : ∀ {n : Nat} {lo : Int}, lo ≤ i → i < lo + n → D.int i ∈ rangeD lo n
  | 0, lo, h, h' => by omega
  | n + 1, lo, h, h' => by
    show D.int i ∈ D.int lo :: rangeD (lo + 1) n
    by_cases e : i = lo
    · subst e; exact List.mem_cons_self
    · exact List.mem_cons_of_mem _ (rangeD_mem (by omega) (by omega))
theorem rangeD_len : ∀ (n : Nat) (lo : Int), (rangeD lo n).length = n
  | 0, lo => rfl
  | n + 1, lo => by
    show (D.int lo :: rangeD (lo + 1) n).length = n + 1
    rw [List.length_cons, rangeD_len n]
theorem rise_get : ∀ N : List (List Nat), rise N = true ↔ ∀ i, i + 1 < N.length → N.getD i [] < N.getD (i + 1) []
  | [] => ⟨fun _ i h => by simp at h, fun _ => rfl⟩
  | [x] => ⟨fun _ i h => by simp at h, fun _ => rfl⟩
  | x :: y :: r => by
    have ih := rise_get (y :: r)
    show (decide (x < y) && rise (y :: r)) = true ↔ _
    rw [Bool.and_eq_true, decide_eq_true_eq, ih]
    constructor
    · rintro ⟨h1, h2⟩ i hi
      cases i with
      | zero => exact h1
      | succ i => exact h2 i (by simp at hi ⊢; omega)
    · intro h
      exact ⟨h 0 (by simp), fun i hi => h (i + 1) (by simp at hi ⊢; omega)⟩
/-- where the names do not rise -/
def notUp (N : List (List Nat)) (d : D) : Bool := match d with
  | .int i => !decide (N.getD (i - 1).toNat [] < N.getD i.toNat [])
  | _ => false
theorem rise_filter (N : List (List Nat)) : (rangeD 1 (N.length - 1)).filter (notUp N) = [] ↔ rise N = true := by
  rw [List.filter_eq_nil_iff, rise_get]
  constructor
  · intro h i hi
    have := h (.int ((i : Int) + 1)) (rangeD_mem (by omega) (by omega))
    have e1 : ((i : Int) + 1 - 1).toNat = i := by omega
    have e2 : ((i : Int) + 1).toNat = i + 1 := by omega
    simpa only [notUp, e1, e2, Bool.not_eq_true', Bool.not_eq_false, decide_eq_true_eq, decide_eq_false_iff_not, Decidable.not_not] using this
  · intro h d hd
    obtain ⟨i, h1, h2, rfl⟩ := mem_rangeD hd
    have := h (i - 1).toNat (by omega)
    have e : (i - 1).toNat + 1 = i.toNat := by omega
    rw [e] at this
    simp only [notUp, this, decide_true, Bool.not_true, Bool.false_eq_true, not_false_eq_true]
theorem sub_nm {N : List (List Nat)} {i : Int} (h0 : 0 ≤ i) (h1 : i < N.length) : IV.subD (.lst (N.map st)) (.int i) = some (st (N.getD i.toNat [])) := by
  have hr : i.toNat < N.length := by omega
  show L2.atI (N.map st) i = _
  unfold L2.atI L2.ixN
  rw [if_pos h0, if_pos (by rw [List.length_map]; exact h1), Option.bind_some, List.getElem?_map, List.getElem?_eq_getElem hr]
  simp [List.getD, List.getElem?_eq_getElem hr]
theorem plain_ints : ∀ {X : List D}, (∀ d ∈ X, ∃ i, d = .int i) → plainDs 59 X = true
  | [], _ => rfl
  | d :: X, h => by
    obtain ⟨i, rfl⟩ := h d List.mem_cons_self
    show (true && plainDs 59 X) = true
    rw [plain_ints fun e he => h e (List.mem_cons_of_mem _ he)]
    rfl
theorem eq_nil {X : List D} (h : ∀ d ∈ X, ∃ i, d = .int i) : cop .eq (.lst X) (.lst []) = some X.isEmpty := by
  show (if _ || (plainDs 59 X && plainDs 59 []) then some (deqs X []) else none) = _
  rw [plain_ints h, if_pos (by simp [plainDs])]
  cases X <;> rfl
theorem b14_eq : b14 = [.ifs (.cmp .eq (.v 0) (.c (.str "-"))) [.ret (.tup [])] [], .own 1 (.lst []), .for_ (.n 2) .seq [(.me .split (.v 0) [(.c (.str ", "))])] tb, .fz 1 (.asg 3 (.comp [7] (.n 7) .seq [(.v 1)] [] true (.sub (.v 7) (.c (.int 0))))), .asg 4 (.comp [8] (.n 8) .rng [(.c (.int 1)), (.bi .len [(.v 1)])] [(.cmp .ge (.sub (.v 3) (.bin .sub (.v 8) (.c (.int 1)))) (.sub (.v 3) (.v 8)))] true (.v 8)), .ret (.ife (.cmp .eq (.v 4) (.lst [])) (.bi .tuple [(.v 1)]) (.c (.str "bad")))] := rfl
theorem mem_part {l p : List Nat} (h : p ∈ parts l) {c : Nat} (hc : c ∈ p) : c ∈ l := by
  have key : ∀ (n : Nat) (l acc : List Nat), l.length ≤ n → ∀ p ∈ TL.spl CM 0 acc l, ∀ c ∈ p, c ∈ acc ∨ c ∈ l := by
    intro n
    induction n with
    | zero =>
      intro l acc hl p hp c hc
      have : l = [] := List.length_eq_zero_iff.mp (by omega)
      subst this
      simp [TL.spl] at hp
      subst hp
      exact .inl hc
    | succ n ih =>
      intro l acc hl p hp c hc
      cases l with
      | nil => simp [TL.spl] at hp; subst hp; exact .inl hc
      | cons d r =>
        unfold TL.spl at hp
        split at hp
        · rename_i hpre
          cases r with
          | nil => simp [TL.pre] at hpre
          | cons e r' =>
            have e1 : TL.spl CM (CM.length - 1) [] (e :: r') = TL.spl CM 0 [] r' := by show TL.spl CM 1 [] (e :: r') = _; rw [TL.spl]
            rw [e1] at hp
            rcases List.mem_cons.mp hp with rfl | hp
            · exact .inl hc
            · rcases ih r' [] (by simp at hl; omega) p hp c hc with q | q
              · cases q
              · exact .inr (List.mem_cons_of_mem _ (List.mem_cons_of_mem _ q))
        · rcases ih r (acc ++ [d]) (by simp at hl; omega) p hp c hc with q | q
          · rcases List.mem_append.mp q with q | q
            · exact .inl q
            · rcases List.mem_singleton.mp q with rfl
              exact .inr List.mem_cons_self
          · exact .inr (List.mem_cons_of_mem _ q)
  rcases key l.length l [] (Nat.le_refl _) p h c hc with q | q
  · cases q
  · exact q
theorem told_ok (k : Nat) {l : List Nat} (hlen : l.length ≤ 300) (hA : ∀ c ∈ l, c < 128) : ∃ o, callF T (k + 1) 14 [.fz (st l)] = .ok (heardD l, o) := by
  rw [callF_eq k (F := f14) rfl rfl rfl]
  show ∃ o, retF false _ (evSs T (callF T k) _ b14 _) = _
  rw [b14_eq]
  by_cases h45 : l = [45]
  · subst h45
    refine ⟨[.no], ?_⟩
    simp -implicitDefEqProofs only [List.replicate, List.cons_append, List.nil_append, evSs_c, evSs_n, thenS_next, thenS_ret, thenS_brk, thenS_cont, thenS_ex, retF_ret, retF_ex, retF_next, R.bind_ok, R.bind_ex, R.of_some, getE_z, getE_s, getE_n, ev_c, ev_v, kVar_fz, kVar_ow, ev_g, kPure_some, kBool_some, ev_tup, ev_lst, ev_bin, kBin_eq, kBin2_eq, ev_cmp, kCmp_eq, kCmp2_eq, ev_chain, kChain_eq, kChain2_eq, kChain3_t, kChain3_f, ev_isN, ev_notN, ev_not, kNot_eq, ev_and, kAnd_bl, kAnd2_t, kAnd2_f, ev_or, kOr_bl, kOr_lst, kOr2_t, kOr2_f, ev_ife, kIfe_eq, kIfe2_t, kIfe2_f, ev_sub, kSub_eq, kSub2_int, ev_slc, kSlc_eq, kSlc2_eq, kSlc3_eq, ev_calln, ev_bi, kBi_1, kBi_2, ev_isi, kIsi_eq, ev_isx, kIsx_eq, ev_me, kMe2_1, es_n, es_c, kEs_eq, st_asg, st_ret, st_if, kIf_eq, kIf2_t, kIf2_f, st_for, st_unp, st_expr, kExpr_eq, st_rais, st_pass, st_try, kTry_ok, st_set, st_fz, kFz_fz, kFz_no, kOwn_lst, kAsg_eq, kRet_eq, kSto_ok, kIsN_eq, kSeq_ok, Nat.reduceLeDiff, beq_tf, beq_ft, beq_tt, beq_ff, isNon_int, isNon_str, isNon_lst, isNon_tup, isNon_exc, isNon_bl, isNon_non, isOwn_exc, kUnp_2, kUnp_3, res_int, res_bl, res_str, res_lst, res_tup, res_non, nst_c, nst_v, nst_ov, nst_g, nst_tup, nst_lst, nst_bin, nst_neg, nst_cmp, nst_chain, nst_isN, nst_notN, nst_not, nst_and, nst_or, nst_ife, nst_sub, nst_slc, nst_rev, nst_call, nst_call1, nst_bi, nst_isi, nst_isx, nst_me, nst_pop, nst_popAt, nst_comp, nst_bad, isOwn_int, isOwn_bl, isOwn_str, isOwn_non, isOwn_tup, isOwn_lst, isOwn_own, decide_true, decide_false, truth_bl, if_true, if_false, Bool.false_eq_true, lockOf_zo, lockOf_zf, lockOf_zn, lockOf_s, lockOf_n, List.length_cons, List.length_nil, List.set_cons_zero, List.set_cons_succ, Nat.reduceAdd, Nat.reduceLT, ownsX_z, ownsX_s, ownsL_z, ownsL_s, Bool.not_true, Bool.not_false, outsE, bop_add, bop_sub, cop_gt, cop_ge, cop_lt, cop_le, bi_int, bi_intb, bi_abs, bi_lenL, bi_lenT, List.any_cons, List.any_nil, Bool.or_false, Bool.false_or, f14, s_dash, cop_eqS]
    rfl
  · have hmt : meTy .split (st l) = true := rfl
    have hm := me_spl (l := l) (by omega)
    have hlp := parts_len l
    have hps : ∀ p ∈ parts l, p.length ≤ 300 ∧ ∀ c ∈ p, c < 128 := fun p hp => ⟨by have := part_len hp; omega, fun c hc => hA c (mem_part hp hc)⟩
    obtain ⟨g1, g2⟩ := told_loop (k := k) (l := l) (parts l) [] .no .no .no hps (by simp; omega)
    have nw : newE T (.lst []) = true := rfl
    have so := fun env => st_own T (callF T k) (lkT l) 1 (e := .lst []) env nw
    have kf := fun env => kFor_eq T (callF T k) (lkT l) (.n 2) (k := .seq) tb (ds := [.lst ((parts l).map st)]) (xs := (parts l).map st) env rfl rfl
    have kf2 : ∀ env, kFor T (callF T k) (lkT l) (.n 2) .seq tb ([.lst ((parts l).map st)], env) = loopS (stepT k l) ((parts l).map st) env := kf
    cases ho : (parts l).all okP with
    | false =>
      obtain ⟨e, h1⟩ := g2 ho
      refine ⟨outsE [.fz (st l)] e, ?_⟩
      simp -implicitDefEqProofs only [List.replicate, List.cons_append, List.nil_append, evSs_c, evSs_n, thenS_next, thenS_ret, thenS_brk, thenS_cont, thenS_ex, retF_ret, retF_ex, retF_next, R.bind_ok, R.bind_ex, R.of_some, getE_z, getE_s, getE_n, ev_c, ev_v, kVar_fz, kVar_ow, ev_g, kPure_some, kBool_some, ev_tup, ev_lst, ev_bin, kBin_eq, kBin2_eq, ev_cmp, kCmp_eq, kCmp2_eq, ev_chain, kChain_eq, kChain2_eq, kChain3_t, kChain3_f, ev_isN, ev_notN, ev_not, kNot_eq, ev_and, kAnd_bl, kAnd2_t, kAnd2_f, ev_or, kOr_bl, kOr_lst, kOr2_t, kOr2_f, ev_ife, kIfe_eq, kIfe2_t, kIfe2_f, ev_sub, kSub_eq, kSub2_int, ev_slc, kSlc_eq, kSlc2_eq, kSlc3_eq, ev_calln, ev_bi, kBi_1, kBi_2, ev_isi, kIsi_eq, ev_isx, kIsx_eq, ev_me, kMe2_1, es_n, es_c, kEs_eq, st_asg, st_ret, st_if, kIf_eq, kIf2_t, kIf2_f, st_for, st_unp, st_expr, kExpr_eq, st_rais, st_pass, st_try, kTry_ok, st_set, st_fz, kFz_fz, kFz_no, kOwn_lst, kAsg_eq, kRet_eq, kSto_ok, kIsN_eq, kSeq_ok, Nat.reduceLeDiff, beq_tf, beq_ft, beq_tt, beq_ff, isNon_int, isNon_str, isNon_lst, isNon_tup, isNon_exc, isNon_bl, isNon_non, isOwn_exc, kUnp_2, kUnp_3, res_int, res_bl, res_str, res_lst, res_tup, res_non, nst_c, nst_v, nst_ov, nst_g, nst_tup, nst_lst, nst_bin, nst_neg, nst_cmp, nst_chain, nst_isN, nst_notN, nst_not, nst_and, nst_or, nst_ife, nst_sub, nst_slc, nst_rev, nst_call, nst_call1, nst_bi, nst_isi, nst_isx, nst_me, nst_pop, nst_popAt, nst_comp, nst_bad, isOwn_int, isOwn_bl, isOwn_str, isOwn_non, isOwn_tup, isOwn_lst, isOwn_own, decide_true, decide_false, truth_bl, if_true, if_false, Bool.false_eq_true, lockOf_zo, lockOf_zf, lockOf_zn, lockOf_s, lockOf_n, List.length_cons, List.length_nil, List.set_cons_zero, List.set_cons_succ, Nat.reduceAdd, Nat.reduceLT, ownsX_z, ownsX_s, ownsL_z, ownsL_s, Bool.not_true, Bool.not_false, outsE, bop_add, bop_sub, cop_gt, cop_ge, cop_lt, cop_le, bi_int, bi_intb, bi_abs, bi_lenL, bi_lenT, List.any_cons, List.any_nil, Bool.or_false, Bool.false_or, f14, s_dash, s_cm, cop_eqS, h45, so, kMe_eq, hmt, hm, kf2, h1]
      unfold heardD crowdIn
      rw [if_neg h45, ho]
      rfl
    | true =>
      obtain ⟨e2, e5, e6, h1⟩ := g1 ho
      rw [List.nil_append] at h1
      have ho' : ∀ p ∈ parts l, okP p = true := List.all_eq_true.mp ho
      have cm1 : ∀ e2 e5 e6, evE T (callF T k) (lkT l) (.comp [7] (.n 7) .seq [(.v 1)] [] true (.sub (.v 7) (.c (.int 0)))) [.fz (st l), .fz (.lst ((parts l).map pairIn)), e2, .no, .no, e5, e6, .no, .no] = .ok (.lst (((parts l).map name).map st), [.fz (st l), .fz (.lst ((parts l).map pairIn)), e2, .no, .no, e5, e6, .no, .no]) := fun e2 e5 e6 => by
        rw [ev_comp1 (ds := [.lst ((parts l).map pairIn)]) (xs := (parts l).map pairIn) (t := fun _ => true) (g := fun d => match d with
          | .tup [a, _] => a
          | _ => .non) ?_ rfl rfl (show 7 < 9 by decide) rfl rfl ?_ ?_]
        · rw [filter_tt, List.map_map, List.map_map]
          congr 2
          exact congrArg D.lst (List.map_congr_left fun p hp => fst_of (ho' p hp))
        · simp -implicitDefEqProofs only [List.replicate, List.cons_append, List.nil_append, evSs_c, evSs_n, thenS_next, thenS_ret, thenS_brk, thenS_cont, thenS_ex, retF_ret, retF_ex, retF_next, R.bind_ok, R.bind_ex, R.of_some, getE_z, getE_s, getE_n, ev_c, ev_v, kVar_fz, kVar_ow, ev_g, kPure_some, kBool_some, ev_tup, ev_lst, ev_bin, kBin_eq, kBin2_eq, ev_cmp, kCmp_eq, kCmp2_eq, ev_chain, kChain_eq, kChain2_eq, kChain3_t, kChain3_f, ev_isN, ev_notN, ev_not, kNot_eq, ev_and, kAnd_bl, kAnd2_t, kAnd2_f, ev_or, kOr_bl, kOr_lst, kOr2_t, kOr2_f, ev_ife, kIfe_eq, kIfe2_t, kIfe2_f, ev_sub, kSub_eq, kSub2_int, ev_slc, kSlc_eq, kSlc2_eq, kSlc3_eq, ev_calln, ev_bi, kBi_1, kBi_2, ev_isi, kIsi_eq, ev_isx, kIsx_eq, ev_me, kMe2_1, es_n, es_c, kEs_eq, st_asg, st_ret, st_if, kIf_eq, kIf2_t, kIf2_f, st_for, st_unp, st_expr, kExpr_eq, st_rais, st_pass, st_try, kTry_ok, st_set, st_fz, kFz_fz, kFz_no, kOwn_lst, kAsg_eq, kRet_eq, kSto_ok, kIsN_eq, kSeq_ok, Nat.reduceLeDiff, beq_tf, beq_ft, beq_tt, beq_ff, isNon_int, isNon_str, isNon_lst, isNon_tup, isNon_exc, isNon_bl, isNon_non, isOwn_exc, kUnp_2, kUnp_3, res_int, res_bl, res_str, res_lst, res_tup, res_non, nst_c, nst_v, nst_ov, nst_g, nst_tup, nst_lst, nst_bin, nst_neg, nst_cmp, nst_chain, nst_isN, nst_notN, nst_not, nst_and, nst_or, nst_ife, nst_sub, nst_slc, nst_rev, nst_call, nst_call1, nst_bi, nst_isi, nst_isx, nst_me, nst_pop, nst_popAt, nst_comp, nst_bad, isOwn_int, isOwn_bl, isOwn_str, isOwn_non, isOwn_tup, isOwn_lst, isOwn_own, decide_true, decide_false, truth_bl, if_true, if_false, Bool.false_eq_true, lockOf_zo, lockOf_zf, lockOf_zn, lockOf_s, lockOf_n, List.length_cons, List.length_nil, List.set_cons_zero, List.set_cons_succ, Nat.reduceAdd, Nat.reduceLT, ownsX_z, ownsX_s, ownsL_z, ownsL_s, Bool.not_true, Bool.not_false, outsE, bop_add, bop_sub, cop_gt, cop_ge, cop_lt, cop_le, bi_int, bi_intb, bi_abs, bi_lenL, bi_lenT, List.any_cons, List.any_nil, Bool.or_false, Bool.false_or]
        · intro d hd
          obtain ⟨p, hp, rfl⟩ := List.mem_map.mp hd
          obtain ⟨n, e, _⟩ := okP_tup (ho' p hp)
          rw [e]
          refine ⟨rfl, evTs_nil .., fun _ => ⟨?_, rfl⟩⟩
          simp -implicitDefEqProofs only [List.replicate, List.cons_append, List.nil_append, evSs_c, evSs_n, thenS_next, thenS_ret, thenS_brk, thenS_cont, thenS_ex, retF_ret, retF_ex, retF_next, R.bind_ok, R.bind_ex, R.of_some, getE_z, getE_s, getE_n, ev_c, ev_v, kVar_fz, kVar_ow, ev_g, kPure_some, kBool_some, ev_tup, ev_lst, ev_bin, kBin_eq, kBin2_eq, ev_cmp, kCmp_eq, kCmp2_eq, ev_chain, kChain_eq, kChain2_eq, kChain3_t, kChain3_f, ev_isN, ev_notN, ev_not, kNot_eq, ev_and, kAnd_bl, kAnd2_t, kAnd2_f, ev_or, kOr_bl, kOr_lst, kOr2_t, kOr2_f, ev_ife, kIfe_eq, kIfe2_t, kIfe2_f, ev_sub, kSub_eq, kSub2_int, ev_slc, kSlc_eq, kSlc2_eq, kSlc3_eq, ev_calln, ev_bi, kBi_1, kBi_2, ev_isi, kIsi_eq, ev_isx, kIsx_eq, ev_me, kMe2_1, es_n, es_c, kEs_eq, st_asg, st_ret, st_if, kIf_eq, kIf2_t, kIf2_f, st_for, st_unp, st_expr, kExpr_eq, st_rais, st_pass, st_try, kTry_ok, st_set, st_fz, kFz_fz, kFz_no, kOwn_lst, kAsg_eq, kRet_eq, kSto_ok, kIsN_eq, kSeq_ok, Nat.reduceLeDiff, beq_tf, beq_ft, beq_tt, beq_ff, isNon_int, isNon_str, isNon_lst, isNon_tup, isNon_exc, isNon_bl, isNon_non, isOwn_exc, kUnp_2, kUnp_3, res_int, res_bl, res_str, res_lst, res_tup, res_non, nst_c, nst_v, nst_ov, nst_g, nst_tup, nst_lst, nst_bin, nst_neg, nst_cmp, nst_chain, nst_isN, nst_notN, nst_not, nst_and, nst_or, nst_ife, nst_sub, nst_slc, nst_rev, nst_call, nst_call1, nst_bi, nst_isi, nst_isx, nst_me, nst_pop, nst_popAt, nst_comp, nst_bad, isOwn_int, isOwn_bl, isOwn_str, isOwn_non, isOwn_tup, isOwn_lst, isOwn_own, decide_true, decide_false, truth_bl, if_true, if_false, Bool.false_eq_true, lockOf_zo, lockOf_zf, lockOf_zn, lockOf_s, lockOf_n, List.length_cons, List.length_nil, List.set_cons_zero, List.set_cons_succ, Nat.reduceAdd, Nat.reduceLT, ownsX_z, ownsX_s, ownsL_z, ownsL_s, Bool.not_true, Bool.not_false, outsE, bop_add, bop_sub, cop_gt, cop_ge, cop_lt, cop_le, bi_int, bi_intb, bi_abs, bi_lenL, bi_lenT, List.any_cons, List.any_nil, Bool.or_false, Bool.false_or, subT0]
        · rw [List.length_map]; exact Nat.le_trans (show (parts l).length ≤ 302 by omega) (by decide)
      have cm2 : ∀ e2 e5 e6, evE T (callF T k) (lkT l) (.comp [8] (.n 8) .rng [(.c (.int 1)), (.bi .len [(.v 1)])] [(.cmp .ge (.sub (.v 3) (.bin .sub (.v 8) (.c (.int 1)))) (.sub (.v 3) (.v 8)))] true (.v 8)) [.fz (st l), .fz (.lst ((parts l).map pairIn)), e2, .fz (.lst (((parts l).map name).map st)), .no, e5, e6, .no, .no] = .ok (.lst ((rangeD 1 (((parts l).map name).length - 1)).filter (notUp ((parts l).map name))), [.fz (st l), .fz (.lst ((parts l).map pairIn)), e2, .fz (.lst (((parts l).map name).map st)), .no, e5, e6, .no, .no]) := fun e2 e5 e6 => by
        have hr : itD .rng [.int 1, .int (((parts l).map pairIn).length : Nat)] = some (rangeD 1 (((parts l).map name).length - 1)) := by
          show (if inRange 1 && inRange ((((parts l).map pairIn).length : Nat) : Int) then some (rangeD 1 (((((parts l).map pairIn).length : Nat) : Int) - 1).toNat) else none) = _
          rw [List.length_map, List.length_map, if_pos]
          · congr 2
            omega
          · simp [inRange]; omega
        rw [ev_comp1 (ds := [.int 1, .int (((parts l).map pairIn).length : Nat)]) (xs := rangeD 1 (((parts l).map name).length - 1)) (t := notUp ((parts l).map name)) (g := fun d => d) ?_ rfl hr (show 8 < 9 by decide) rfl rfl ?_ ?_]
        · rw [List.map_id']
        · simp -implicitDefEqProofs only [List.replicate, List.cons_append, List.nil_append, evSs_c, evSs_n, thenS_next, thenS_ret, thenS_brk, thenS_cont, thenS_ex, retF_ret, retF_ex, retF_next, R.bind_ok, R.bind_ex, R.of_some, getE_z, getE_s, getE_n, ev_c, ev_v, kVar_fz, kVar_ow, ev_g, kPure_some, kBool_some, ev_tup, ev_lst, ev_bin, kBin_eq, kBin2_eq, ev_cmp, kCmp_eq, kCmp2_eq, ev_chain, kChain_eq, kChain2_eq, kChain3_t, kChain3_f, ev_isN, ev_notN, ev_not, kNot_eq, ev_and, kAnd_bl, kAnd2_t, kAnd2_f, ev_or, kOr_bl, kOr_lst, kOr2_t, kOr2_f, ev_ife, kIfe_eq, kIfe2_t, kIfe2_f, ev_sub, kSub_eq, kSub2_int, ev_slc, kSlc_eq, kSlc2_eq, kSlc3_eq, ev_calln, ev_bi, kBi_1, kBi_2, ev_isi, kIsi_eq, ev_isx, kIsx_eq, ev_me, kMe2_1, es_n, es_c, kEs_eq, st_asg, st_ret, st_if, kIf_eq, kIf2_t, kIf2_f, st_for, st_unp, st_expr, kExpr_eq, st_rais, st_pass, st_try, kTry_ok, st_set, st_fz, kFz_fz, kFz_no, kOwn_lst, kAsg_eq, kRet_eq, kSto_ok, kIsN_eq, kSeq_ok, Nat.reduceLeDiff, beq_tf, beq_ft, beq_tt, beq_ff, isNon_int, isNon_str, isNon_lst, isNon_tup, isNon_exc, isNon_bl, isNon_non, isOwn_exc, kUnp_2, kUnp_3, res_int, res_bl, res_str, res_lst, res_tup, res_non, nst_c, nst_v, nst_ov, nst_g, nst_tup, nst_lst, nst_bin, nst_neg, nst_cmp, nst_chain, nst_isN, nst_notN, nst_not, nst_and, nst_or, nst_ife, nst_sub, nst_slc, nst_rev, nst_call, nst_call1, nst_bi, nst_isi, nst_isx, nst_me, nst_pop, nst_popAt, nst_comp, nst_bad, isOwn_int, isOwn_bl, isOwn_str, isOwn_non, isOwn_tup, isOwn_lst, isOwn_own, decide_true, decide_false, truth_bl, if_true, if_false, Bool.false_eq_true, lockOf_zo, lockOf_zf, lockOf_zn, lockOf_s, lockOf_n, List.length_cons, List.length_nil, List.set_cons_zero, List.set_cons_succ, Nat.reduceAdd, Nat.reduceLT, ownsX_z, ownsX_s, ownsL_z, ownsL_s, Bool.not_true, Bool.not_false, outsE, bop_add, bop_sub, cop_gt, cop_ge, cop_lt, cop_le, bi_int, bi_intb, bi_abs, bi_lenL, bi_lenT, List.any_cons, List.any_nil, Bool.or_false, Bool.false_or]
        · intro d hd
          obtain ⟨i, i1, i2, rfl⟩ := mem_rangeD hd
          refine ⟨rfl, evTs_1 ?_, fun _ => ⟨?_, rfl⟩⟩
          · have s1 := sub_nm (N := (parts l).map name) (i := i - 1) (by omega) (by omega)
            have s2 := sub_nm (N := (parts l).map name) (i := i) (by omega) (by omega)
            simp -implicitDefEqProofs only [List.replicate, List.cons_append, List.nil_append, evSs_c, evSs_n, thenS_next, thenS_ret, thenS_brk, thenS_cont, thenS_ex, retF_ret, retF_ex, retF_next, R.bind_ok, R.bind_ex, R.of_some, getE_z, getE_s, getE_n, ev_c, ev_v, kVar_fz, kVar_ow, ev_g, kPure_some, kBool_some, ev_tup, ev_lst, ev_bin, kBin_eq, kBin2_eq, ev_cmp, kCmp_eq, kCmp2_eq, ev_chain, kChain_eq, kChain2_eq, kChain3_t, kChain3_f, ev_isN, ev_notN, ev_not, kNot_eq, ev_and, kAnd_bl, kAnd2_t, kAnd2_f, ev_or, kOr_bl, kOr_lst, kOr2_t, kOr2_f, ev_ife, kIfe_eq, kIfe2_t, kIfe2_f, ev_sub, kSub_eq, kSub2_int, ev_slc, kSlc_eq, kSlc2_eq, kSlc3_eq, ev_calln, ev_bi, kBi_1, kBi_2, ev_isi, kIsi_eq, ev_isx, kIsx_eq, ev_me, kMe2_1, es_n, es_c, kEs_eq, st_asg, st_ret, st_if, kIf_eq, kIf2_t, kIf2_f, st_for, st_unp, st_expr, kExpr_eq, st_rais, st_pass, st_try, kTry_ok, st_set, st_fz, kFz_fz, kFz_no, kOwn_lst, kAsg_eq, kRet_eq, kSto_ok, kIsN_eq, kSeq_ok, Nat.reduceLeDiff, beq_tf, beq_ft, beq_tt, beq_ff, isNon_int, isNon_str, isNon_lst, isNon_tup, isNon_exc, isNon_bl, isNon_non, isOwn_exc, kUnp_2, kUnp_3, res_int, res_bl, res_str, res_lst, res_tup, res_non, nst_c, nst_v, nst_ov, nst_g, nst_tup, nst_lst, nst_bin, nst_neg, nst_cmp, nst_chain, nst_isN, nst_notN, nst_not, nst_and, nst_or, nst_ife, nst_sub, nst_slc, nst_rev, nst_call, nst_call1, nst_bi, nst_isi, nst_isx, nst_me, nst_pop, nst_popAt, nst_comp, nst_bad, isOwn_int, isOwn_bl, isOwn_str, isOwn_non, isOwn_tup, isOwn_lst, isOwn_own, decide_true, decide_false, truth_bl, if_true, if_false, Bool.false_eq_true, lockOf_zo, lockOf_zf, lockOf_zn, lockOf_s, lockOf_n, List.length_cons, List.length_nil, List.set_cons_zero, List.set_cons_succ, Nat.reduceAdd, Nat.reduceLT, ownsX_z, ownsX_s, ownsL_z, ownsL_s, Bool.not_true, Bool.not_false, outsE, bop_add, bop_sub, cop_gt, cop_ge, cop_lt, cop_le, bi_int, bi_intb, bi_abs, bi_lenL, bi_lenT, List.any_cons, List.any_nil, Bool.or_false, Bool.false_or, s1, s2, cop_geS]
            rfl
          · simp -implicitDefEqProofs only [List.replicate, List.cons_append, List.nil_append, evSs_c, evSs_n, thenS_next, thenS_ret, thenS_brk, thenS_cont, thenS_ex, retF_ret, retF_ex, retF_next, R.bind_ok, R.bind_ex, R.of_some, getE_z, getE_s, getE_n, ev_c, ev_v, kVar_fz, kVar_ow, ev_g, kPure_some, kBool_some, ev_tup, ev_lst, ev_bin, kBin_eq, kBin2_eq, ev_cmp, kCmp_eq, kCmp2_eq, ev_chain, kChain_eq, kChain2_eq, kChain3_t, kChain3_f, ev_isN, ev_notN, ev_not, kNot_eq, ev_and, kAnd_bl, kAnd2_t, kAnd2_f, ev_or, kOr_bl, kOr_lst, kOr2_t, kOr2_f, ev_ife, kIfe_eq, kIfe2_t, kIfe2_f, ev_sub, kSub_eq, kSub2_int, ev_slc, kSlc_eq, kSlc2_eq, kSlc3_eq, ev_calln, ev_bi, kBi_1, kBi_2, ev_isi, kIsi_eq, ev_isx, kIsx_eq, ev_me, kMe2_1, es_n, es_c, kEs_eq, st_asg, st_ret, st_if, kIf_eq, kIf2_t, kIf2_f, st_for, st_unp, st_expr, kExpr_eq, st_rais, st_pass, st_try, kTry_ok, st_set, st_fz, kFz_fz, kFz_no, kOwn_lst, kAsg_eq, kRet_eq, kSto_ok, kIsN_eq, kSeq_ok, Nat.reduceLeDiff, beq_tf, beq_ft, beq_tt, beq_ff, isNon_int, isNon_str, isNon_lst, isNon_tup, isNon_exc, isNon_bl, isNon_non, isOwn_exc, kUnp_2, kUnp_3, res_int, res_bl, res_str, res_lst, res_tup, res_non, nst_c, nst_v, nst_ov, nst_g, nst_tup, nst_lst, nst_bin, nst_neg, nst_cmp, nst_chain, nst_isN, nst_notN, nst_not, nst_and, nst_or, nst_ife, nst_sub, nst_slc, nst_rev, nst_call, nst_call1, nst_bi, nst_isi, nst_isx, nst_me, nst_pop, nst_popAt, nst_comp, nst_bad, isOwn_int, isOwn_bl, isOwn_str, isOwn_non, isOwn_tup, isOwn_lst, isOwn_own, decide_true, decide_false, truth_bl, if_true, if_false, Bool.false_eq_true, lockOf_zo, lockOf_zf, lockOf_zn, lockOf_s, lockOf_n, List.length_cons, List.length_nil, List.set_cons_zero, List.set_cons_succ, Nat.reduceAdd, Nat.reduceLT, ownsX_z, ownsX_s, ownsL_z, ownsL_s, Bool.not_true, Bool.not_false, outsE, bop_add, bop_sub, cop_gt, cop_ge, cop_lt, cop_le, bi_int, bi_intb, bi_abs, bi_lenL, bi_lenT, List.any_cons, List.any_nil, Bool.or_false, Bool.false_or]
        · rw [rangeD_len, List.length_map]; exact Nat.le_trans (show (parts l).length - 1 ≤ 302 by omega) (by decide)
      have en := eq_nil (X := (rangeD 1 (((parts l).map name).length - 1)).filter (notUp ((parts l).map name))) fun d hd => by
        obtain ⟨i, _, _, e⟩ := mem_rangeD (List.mem_filter.mp hd).1
        exact ⟨i, e⟩
      have ht : biD .tuple [.lst ((parts l).map pairIn)] = some (.tup ((parts l).map pairIn)) := rfl
      cases hr : rise ((parts l).map name) with
      | true =>
        rw [(rise_filter _).mpr hr] at en cm2
        have en' : cop .eq (.lst []) (.lst []) = some true := rfl
        refine ⟨[.no], ?_⟩
        simp -implicitDefEqProofs only [List.replicate, List.cons_append, List.nil_append, evSs_c, evSs_n, thenS_next, thenS_ret, thenS_brk, thenS_cont, thenS_ex, retF_ret, retF_ex, retF_next, R.bind_ok, R.bind_ex, R.of_some, getE_z, getE_s, getE_n, ev_c, ev_v, kVar_fz, kVar_ow, ev_g, kPure_some, kBool_some, ev_tup, ev_lst, ev_bin, kBin_eq, kBin2_eq, ev_cmp, kCmp_eq, kCmp2_eq, ev_chain, kChain_eq, kChain2_eq, kChain3_t, kChain3_f, ev_isN, ev_notN, ev_not, kNot_eq, ev_and, kAnd_bl, kAnd2_t, kAnd2_f, ev_or, kOr_bl, kOr_lst, kOr2_t, kOr2_f, ev_ife, kIfe_eq, kIfe2_t, kIfe2_f, ev_sub, kSub_eq, kSub2_int, ev_slc, kSlc_eq, kSlc2_eq, kSlc3_eq, ev_calln, ev_bi, kBi_1, kBi_2, ev_isi, kIsi_eq, ev_isx, kIsx_eq, ev_me, kMe2_1, es_n, es_c, kEs_eq, st_asg, st_ret, st_if, kIf_eq, kIf2_t, kIf2_f, st_for, st_unp, st_expr, kExpr_eq, st_rais, st_pass, st_try, kTry_ok, st_set, st_fz, kFz_fz, kFz_no, kOwn_lst, kAsg_eq, kRet_eq, kSto_ok, kIsN_eq, kSeq_ok, Nat.reduceLeDiff, beq_tf, beq_ft, beq_tt, beq_ff, isNon_int, isNon_str, isNon_lst, isNon_tup, isNon_exc, isNon_bl, isNon_non, isOwn_exc, kUnp_2, kUnp_3, res_int, res_bl, res_str, res_lst, res_tup, res_non, nst_c, nst_v, nst_ov, nst_g, nst_tup, nst_lst, nst_bin, nst_neg, nst_cmp, nst_chain, nst_isN, nst_notN, nst_not, nst_and, nst_or, nst_ife, nst_sub, nst_slc, nst_rev, nst_call, nst_call1, nst_bi, nst_isi, nst_isx, nst_me, nst_pop, nst_popAt, nst_comp, nst_bad, isOwn_int, isOwn_bl, isOwn_str, isOwn_non, isOwn_tup, isOwn_lst, isOwn_own, decide_true, decide_false, truth_bl, if_true, if_false, Bool.false_eq_true, lockOf_zo, lockOf_zf, lockOf_zn, lockOf_s, lockOf_n, List.length_cons, List.length_nil, List.set_cons_zero, List.set_cons_succ, Nat.reduceAdd, Nat.reduceLT, ownsX_z, ownsX_s, ownsL_z, ownsL_s, Bool.not_true, Bool.not_false, outsE, bop_add, bop_sub, cop_gt, cop_ge, cop_lt, cop_le, bi_int, bi_intb, bi_abs, bi_lenL, bi_lenT, List.any_cons, List.any_nil, Bool.or_false, Bool.false_or, f14, s_dash, s_cm, cop_eqS, h45, so, kMe_eq, hmt, hm, kf2, h1, kFz_ow, cm1, cm2, en', ht]
        unfold heardD crowdIn
        rw [if_neg h45, ho, hr]
        rfl
      | false =>
        have hne : ((rangeD 1 (((parts l).map name).length - 1)).filter (notUp ((parts l).map name))).isEmpty = false := by
          rw [List.isEmpty_eq_false_iff]
          intro z
          rw [(rise_filter _).mp z] at hr
          cases hr
        rw [hne] at en
        refine ⟨[.no], ?_⟩
        simp -implicitDefEqProofs only [List.replicate, List.cons_append, List.nil_append, evSs_c, evSs_n, thenS_next, thenS_ret, thenS_brk, thenS_cont, thenS_ex, retF_ret, retF_ex, retF_next, R.bind_ok, R.bind_ex, R.of_some, getE_z, getE_s, getE_n, ev_c, ev_v, kVar_fz, kVar_ow, ev_g, kPure_some, kBool_some, ev_tup, ev_lst, ev_bin, kBin_eq, kBin2_eq, ev_cmp, kCmp_eq, kCmp2_eq, ev_chain, kChain_eq, kChain2_eq, kChain3_t, kChain3_f, ev_isN, ev_notN, ev_not, kNot_eq, ev_and, kAnd_bl, kAnd2_t, kAnd2_f, ev_or, kOr_bl, kOr_lst, kOr2_t, kOr2_f, ev_ife, kIfe_eq, kIfe2_t, kIfe2_f, ev_sub, kSub_eq, kSub2_int, ev_slc, kSlc_eq, kSlc2_eq, kSlc3_eq, ev_calln, ev_bi, kBi_1, kBi_2, ev_isi, kIsi_eq, ev_isx, kIsx_eq, ev_me, kMe2_1, es_n, es_c, kEs_eq, st_asg, st_ret, st_if, kIf_eq, kIf2_t, kIf2_f, st_for, st_unp, st_expr, kExpr_eq, st_rais, st_pass, st_try, kTry_ok, st_set, st_fz, kFz_fz, kFz_no, kOwn_lst, kAsg_eq, kRet_eq, kSto_ok, kIsN_eq, kSeq_ok, Nat.reduceLeDiff, beq_tf, beq_ft, beq_tt, beq_ff, isNon_int, isNon_str, isNon_lst, isNon_tup, isNon_exc, isNon_bl, isNon_non, isOwn_exc, kUnp_2, kUnp_3, res_int, res_bl, res_str, res_lst, res_tup, res_non, nst_c, nst_v, nst_ov, nst_g, nst_tup, nst_lst, nst_bin, nst_neg, nst_cmp, nst_chain, nst_isN, nst_notN, nst_not, nst_and, nst_or, nst_ife, nst_sub, nst_slc, nst_rev, nst_call, nst_call1, nst_bi, nst_isi, nst_isx, nst_me, nst_pop, nst_popAt, nst_comp, nst_bad, isOwn_int, isOwn_bl, isOwn_str, isOwn_non, isOwn_tup, isOwn_lst, isOwn_own, decide_true, decide_false, truth_bl, if_true, if_false, Bool.false_eq_true, lockOf_zo, lockOf_zf, lockOf_zn, lockOf_s, lockOf_n, List.length_cons, List.length_nil, List.set_cons_zero, List.set_cons_succ, Nat.reduceAdd, Nat.reduceLT, ownsX_z, ownsX_s, ownsL_z, ownsL_s, Bool.not_true, Bool.not_false, outsE, bop_add, bop_sub, cop_gt, cop_ge, cop_lt, cop_le, bi_int, bi_intb, bi_abs, bi_lenL, bi_lenT, List.any_cons, List.any_nil, Bool.or_false, Bool.false_or, f14, s_dash, s_cm, cop_eqS, h45, so, kMe_eq, hmt, hm, kf2, h1, kFz_ow, cm1, cm2, en, s_bad]
        unfold heardD crowdIn
        rw [if_neg h45, ho, hr]
        rfl
end K90

set_option linter.all false
set_option Elab.async false
set_option maxRecDepth 100000
/-! P90j: same, lists, crowd_text (own work; printed from P90j.tpl by exp.py). -/
namespace K90
open IV

/-- a pair: a name and a number -/
abbrev Pr := List Nat × Int
def pD (p : Pr) : D := .tup [st p.1, .int p.2]
def pL (p : Pr) : D := .lst [st p.1, .int p.2]
def num (n : Int) : List Nat := (PySem.Str.ofString (toString n)).cps.toList
def one (p : Pr) : List Nat := p.1 ++ [32] ++ num p.2
def say (ps : List Pr) : List Nat := if ps = [] then [45] else TL.joinL CM (ps.map one)
/-! ### same -/
mutual
def sd : Nat → D → Bool
  | _, .str _ => true
  | _, .int _ => true
  | n + 1, .lst ds => decide (ds.length ≤ 1000) && sds n ds
  | n + 1, .tup ds => decide (ds.length ≤ 1000) && sds n ds
  | _, _ => false
def sds : Nat → List D → Bool
  | _, [] => true
  | n, d :: ds => sd n d && sds n ds
end
theorem sd_no {n : Nat} {d : D} (h : sd n d = true) : isOwn d = false := by
  cases d <;> first | rfl | (cases n <;> cases h)
theorem sds_mem : ∀ {n : Nat} {ds : List D}, sds n ds = true → ∀ d ∈ ds, sd n d = true
  | n, [], _, d, hd => by cases hd
  | n, e :: ds, h, d, hd => by
    rw [sds, Bool.and_eq_true] at h
    rcases List.mem_cons.mp hd with rfl | hd
    · exact h.1
    · exact sds_mem h.2 d hd
theorem cop_neB (a b : Bool) : cop .ne (.bl a) (.bl b) = some (!(a == b)) := rfl
theorem cop_eqB (a b : Bool) : cop .eq (.bl a) (.bl b) = some (a == b) := rfl
theorem zip_mem {d : D} : ∀ {ds : List D}, d ∈ zipD ds ds → ∃ x ∈ ds, d = .tup [x, x]
  | [], h => by cases h
  | x :: ds, h => by
    rcases List.mem_cons.mp (show d ∈ D.tup [x, x] :: zipD ds ds from h) with rfl | h
    · exact ⟨x, List.mem_cons_self, rfl⟩
    · obtain ⟨y, hy, e⟩ := zip_mem h
      exact ⟨y, List.mem_cons_of_mem _ hy, e⟩
theorem zip_len : ∀ ds : List D, (zipD ds ds).length = ds.length
  | [] => rfl
  | x :: ds => by
    show (D.tup [x, x] :: zipD ds ds).length = _
    rw [List.length_cons, zip_len ds]; rfl
theorem all_tt {α : Type} (l : List α) : biD .all [.lst (l.map fun _ => .bl true)] = some (.bl true) := by
  have h : ∀ l : List α, bools (l.map fun _ => D.bl true) = some (l.map fun _ => true) := fun l => by
    induction l with
    | nil => rfl
    | cons c l ih => rw [List.map_cons, bools, ih]; rfl
  show (bools _).map _ = _
  rw [h]
  simp
theorem c2 {k f : Nat} {a b d : D} {o : Env} (ha : isOwn a = false) (hb : isOwn b = false) (hc : callF T k f [.fz a, .fz b] = .ok (d, o)) (env : Env) : callD (callF T k) f [a, b] env = .ok (d, env) := callD_fz (ds := [a, b]) (by simp [ha, hb]) hc env
theorem same_seq {k n : Nat} {ds : List D} (mk : List D → D) (hmk : mk = .lst ∨ mk = .tup) (hl : ds.length ≤ 1000) (hds : sds n ds = true) (ih : ∀ d, sd n d = true → ∃ o, callF T k 10 [.fz d, .fz d] = .ok (.bl true, o)) : ∃ o, callF T (k + 1) 10 [.fz (mk ds), .fz (mk ds)] = .ok (.bl true, o) := by
  have cm : evE T (callF T k) (lockOf [.fz (mk ds), .fz (mk ds)]) (.comp [2, 3] (.t [2, 3]) .zip [(.v 0), (.v 1)] [] true (.call 10 [(.v 2), (.v 3)] [])) [.fz (mk ds), .fz (mk ds), .no, .no] = .ok (.lst ((zipD ds ds).map fun _ => .bl true), [.fz (mk ds), .fz (mk ds), .no, .no]) := by
    have hz : itD .zip [mk ds, mk ds] = some (zipD ds ds) := by rcases hmk with rfl | rfl <;> rfl
    have hno : [mk ds, mk ds].any isOwn = false := by rcases hmk with rfl | rfl <;> rfl
    rw [ev_comp2 (ds := [mk ds, mk ds]) (xs := zipD ds ds) (t := fun _ => true) (g := fun _ => .bl true) ?_ hno hz (show 2 < 4 by decide) (show 3 < 4 by decide) (by decide) rfl rfl rfl ?_ ?_]
    · rw [filter_tt]
    · simp -implicitDefEqProofs only [List.replicate, List.cons_append, List.nil_append, evSs_c, evSs_n, thenS_next, thenS_ret, thenS_brk, thenS_cont, thenS_ex, retF_ret, retF_ex, retF_next, R.bind_ok, R.bind_ex, R.of_some, getE_z, getE_s, getE_n, ev_c, ev_v, kVar_fz, kVar_ow, ev_g, kPure_some, kBool_some, ev_tup, ev_lst, ev_bin, kBin_eq, kBin2_eq, ev_cmp, kCmp_eq, kCmp2_eq, ev_chain, kChain_eq, kChain2_eq, kChain3_t, kChain3_f, ev_isN, ev_notN, ev_not, kNot_eq, ev_and, kAnd_bl, kAnd2_t, kAnd2_f, ev_or, kOr_bl, kOr_lst, kOr2_t, kOr2_f, ev_ife, kIfe_eq, kIfe2_t, kIfe2_f, ev_sub, kSub_eq, kSub2_int, ev_slc, kSlc_eq, kSlc2_eq, kSlc3_eq, ev_calln, ev_bi, kBi_1, kBi_2, ev_isi, kIsi_eq, ev_isx, kIsx_eq, ev_me, kMe2_1, es_n, es_c, kEs_eq, st_asg, st_ret, st_if, kIf_eq, kIf2_t, kIf2_f, st_for, st_unp, st_expr, kExpr_eq, st_rais, st_pass, st_try, kTry_ok, st_set, st_fz, kFz_fz, kFz_no, kOwn_lst, kAsg_eq, kRet_eq, kSto_ok, kIsN_eq, kSeq_ok, Nat.reduceLeDiff, beq_tf, beq_ft, beq_tt, beq_ff, isNon_int, isNon_str, isNon_lst, isNon_tup, isNon_exc, isNon_bl, isNon_non, isOwn_exc, kUnp_2, kUnp_3, res_int, res_bl, res_str, res_lst, res_tup, res_non, nst_c, nst_v, nst_ov, nst_g, nst_tup, nst_lst, nst_bin, nst_neg, nst_cmp, nst_chain, nst_isN, nst_notN, nst_not, nst_and, nst_or, nst_ife, nst_sub, nst_slc, nst_rev, nst_call, nst_call1, nst_bi, nst_isi, nst_isx, nst_me, nst_pop, nst_popAt, nst_comp, nst_bad, isOwn_int, isOwn_bl, isOwn_str, isOwn_non, isOwn_tup, isOwn_lst, isOwn_own, decide_true, decide_false, truth_bl, if_true, if_false, Bool.false_eq_true, lockOf_zo, lockOf_zf, lockOf_zn, lockOf_s, lockOf_n, List.length_cons, List.length_nil, List.set_cons_zero, List.set_cons_succ, Nat.reduceAdd, Nat.reduceLT, ownsX_z, ownsX_s, ownsL_z, ownsL_s, Bool.not_true, Bool.not_false, outsE, bop_add, bop_sub, cop_gt, cop_ge, cop_lt, cop_le, bi_int, bi_intb, bi_abs, bi_lenL, bi_lenT, List.any_cons, List.any_nil, Bool.or_false, Bool.false_or]
    · intro d hd
      obtain ⟨x, hx, rfl⟩ := zip_mem hd
      have hs := sds_mem hds x hx
      have hn := sd_no hs
      obtain ⟨o, hc⟩ := ih x hs
      have cc := fun env => c2 hn hn hc env
      refine ⟨x, x, .inl rfl, hn, hn, evTs_nil .., fun _ => ⟨?_, rfl⟩⟩
      simp -implicitDefEqProofs only [List.replicate, List.cons_append, List.nil_append, evSs_c, evSs_n, thenS_next, thenS_ret, thenS_brk, thenS_cont, thenS_ex, retF_ret, retF_ex, retF_next, R.bind_ok, R.bind_ex, R.of_some, getE_z, getE_s, getE_n, ev_c, ev_v, kVar_fz, kVar_ow, ev_g, kPure_some, kBool_some, ev_tup, ev_lst, ev_bin, kBin_eq, kBin2_eq, ev_cmp, kCmp_eq, kCmp2_eq, ev_chain, kChain_eq, kChain2_eq, kChain3_t, kChain3_f, ev_isN, ev_notN, ev_not, kNot_eq, ev_and, kAnd_bl, kAnd2_t, kAnd2_f, ev_or, kOr_bl, kOr_lst, kOr2_t, kOr2_f, ev_ife, kIfe_eq, kIfe2_t, kIfe2_f, ev_sub, kSub_eq, kSub2_int, ev_slc, kSlc_eq, kSlc2_eq, kSlc3_eq, ev_calln, ev_bi, kBi_1, kBi_2, ev_isi, kIsi_eq, ev_isx, kIsx_eq, ev_me, kMe2_1, es_n, es_c, kEs_eq, st_asg, st_ret, st_if, kIf_eq, kIf2_t, kIf2_f, st_for, st_unp, st_expr, kExpr_eq, st_rais, st_pass, st_try, kTry_ok, st_set, st_fz, kFz_fz, kFz_no, kOwn_lst, kAsg_eq, kRet_eq, kSto_ok, kIsN_eq, kSeq_ok, Nat.reduceLeDiff, beq_tf, beq_ft, beq_tt, beq_ff, isNon_int, isNon_str, isNon_lst, isNon_tup, isNon_exc, isNon_bl, isNon_non, isOwn_exc, kUnp_2, kUnp_3, res_int, res_bl, res_str, res_lst, res_tup, res_non, nst_c, nst_v, nst_ov, nst_g, nst_tup, nst_lst, nst_bin, nst_neg, nst_cmp, nst_chain, nst_isN, nst_notN, nst_not, nst_and, nst_or, nst_ife, nst_sub, nst_slc, nst_rev, nst_call, nst_call1, nst_bi, nst_isi, nst_isx, nst_me, nst_pop, nst_popAt, nst_comp, nst_bad, isOwn_int, isOwn_bl, isOwn_str, isOwn_non, isOwn_tup, isOwn_lst, isOwn_own, decide_true, decide_false, truth_bl, if_true, if_false, Bool.false_eq_true, lockOf_zo, lockOf_zf, lockOf_zn, lockOf_s, lockOf_n, List.length_cons, List.length_nil, List.set_cons_zero, List.set_cons_succ, Nat.reduceAdd, Nat.reduceLT, ownsX_z, ownsX_s, ownsL_z, ownsL_s, Bool.not_true, Bool.not_false, outsE, bop_add, bop_sub, cop_gt, cop_ge, cop_lt, cop_le, bi_int, bi_intb, bi_abs, bi_lenL, bi_lenT, List.any_cons, List.any_nil, Bool.or_false, Bool.false_or, kCall_2 T (callF T k) (f := 10) (F := f10) rfl rfl, cc]
    · rw [zip_len]; exact Nat.le_trans hl (by decide)
  rw [callF_eq k (F := f10) rfl rfl rfl]
  refine ⟨[.no, .no], ?_⟩
  rcases hmk with rfl | rfl
  · have t1 : tyAny (.lst ds) [.list, .tuple] = some true := rfl
    have t2 : tyAny (.lst ds) [.list] = some true := rfl
    have t3 : tyAny (.lst ds) [.tuple] = some false := rfl
    simp -implicitDefEqProofs only [List.replicate, List.cons_append, List.nil_append, evSs_c, evSs_n, thenS_next, thenS_ret, thenS_brk, thenS_cont, thenS_ex, retF_ret, retF_ex, retF_next, R.bind_ok, R.bind_ex, R.of_some, getE_z, getE_s, getE_n, ev_c, ev_v, kVar_fz, kVar_ow, ev_g, kPure_some, kBool_some, ev_tup, ev_lst, ev_bin, kBin_eq, kBin2_eq, ev_cmp, kCmp_eq, kCmp2_eq, ev_chain, kChain_eq, kChain2_eq, kChain3_t, kChain3_f, ev_isN, ev_notN, ev_not, kNot_eq, ev_and, kAnd_bl, kAnd2_t, kAnd2_f, ev_or, kOr_bl, kOr_lst, kOr2_t, kOr2_f, ev_ife, kIfe_eq, kIfe2_t, kIfe2_f, ev_sub, kSub_eq, kSub2_int, ev_slc, kSlc_eq, kSlc2_eq, kSlc3_eq, ev_calln, ev_bi, kBi_1, kBi_2, ev_isi, kIsi_eq, ev_isx, kIsx_eq, ev_me, kMe2_1, es_n, es_c, kEs_eq, st_asg, st_ret, st_if, kIf_eq, kIf2_t, kIf2_f, st_for, st_unp, st_expr, kExpr_eq, st_rais, st_pass, st_try, kTry_ok, st_set, st_fz, kFz_fz, kFz_no, kOwn_lst, kAsg_eq, kRet_eq, kSto_ok, kIsN_eq, kSeq_ok, Nat.reduceLeDiff, beq_tf, beq_ft, beq_tt, beq_ff, isNon_int, isNon_str, isNon_lst, isNon_tup, isNon_exc, isNon_bl, isNon_non, isOwn_exc, kUnp_2, kUnp_3, res_int, res_bl, res_str, res_lst, res_tup, res_non, nst_c, nst_v, nst_ov, nst_g, nst_tup, nst_lst, nst_bin, nst_neg, nst_cmp, nst_chain, nst_isN, nst_notN, nst_not, nst_and, nst_or, nst_ife, nst_sub, nst_slc, nst_rev, nst_call, nst_call1, nst_bi, nst_isi, nst_isx, nst_me, nst_pop, nst_popAt, nst_comp, nst_bad, isOwn_int, isOwn_bl, isOwn_str, isOwn_non, isOwn_tup, isOwn_lst, isOwn_own, decide_true, decide_false, truth_bl, if_true, if_false, Bool.false_eq_true, lockOf_zo, lockOf_zf, lockOf_zn, lockOf_s, lockOf_n, List.length_cons, List.length_nil, List.set_cons_zero, List.set_cons_succ, Nat.reduceAdd, Nat.reduceLT, ownsX_z, ownsX_s, ownsL_z, ownsL_s, Bool.not_true, Bool.not_false, outsE, bop_add, bop_sub, cop_gt, cop_ge, cop_lt, cop_le, bi_int, bi_intb, bi_abs, bi_lenL, bi_lenT, List.any_cons, List.any_nil, Bool.or_false, Bool.false_or, f10, b10, t1, t2, t3, cop_neB, cop_eqI, cm, all_tt]
  · have t1 : tyAny (.tup ds) [.list, .tuple] = some true := rfl
    have t2 : tyAny (.tup ds) [.list] = some false := rfl
    have t3 : tyAny (.tup ds) [.tuple] = some true := rfl
    simp -implicitDefEqProofs only [List.replicate, List.cons_append, List.nil_append, evSs_c, evSs_n, thenS_next, thenS_ret, thenS_brk, thenS_cont, thenS_ex, retF_ret, retF_ex, retF_next, R.bind_ok, R.bind_ex, R.of_some, getE_z, getE_s, getE_n, ev_c, ev_v, kVar_fz, kVar_ow, ev_g, kPure_some, kBool_some, ev_tup, ev_lst, ev_bin, kBin_eq, kBin2_eq, ev_cmp, kCmp_eq, kCmp2_eq, ev_chain, kChain_eq, kChain2_eq, kChain3_t, kChain3_f, ev_isN, ev_notN, ev_not, kNot_eq, ev_and, kAnd_bl, kAnd2_t, kAnd2_f, ev_or, kOr_bl, kOr_lst, kOr2_t, kOr2_f, ev_ife, kIfe_eq, kIfe2_t, kIfe2_f, ev_sub, kSub_eq, kSub2_int, ev_slc, kSlc_eq, kSlc2_eq, kSlc3_eq, ev_calln, ev_bi, kBi_1, kBi_2, ev_isi, kIsi_eq, ev_isx, kIsx_eq, ev_me, kMe2_1, es_n, es_c, kEs_eq, st_asg, st_ret, st_if, kIf_eq, kIf2_t, kIf2_f, st_for, st_unp, st_expr, kExpr_eq, st_rais, st_pass, st_try, kTry_ok, st_set, st_fz, kFz_fz, kFz_no, kOwn_lst, kAsg_eq, kRet_eq, kSto_ok, kIsN_eq, kSeq_ok, Nat.reduceLeDiff, beq_tf, beq_ft, beq_tt, beq_ff, isNon_int, isNon_str, isNon_lst, isNon_tup, isNon_exc, isNon_bl, isNon_non, isOwn_exc, kUnp_2, kUnp_3, res_int, res_bl, res_str, res_lst, res_tup, res_non, nst_c, nst_v, nst_ov, nst_g, nst_tup, nst_lst, nst_bin, nst_neg, nst_cmp, nst_chain, nst_isN, nst_notN, nst_not, nst_and, nst_or, nst_ife, nst_sub, nst_slc, nst_rev, nst_call, nst_call1, nst_bi, nst_isi, nst_isx, nst_me, nst_pop, nst_popAt, nst_comp, nst_bad, isOwn_int, isOwn_bl, isOwn_str, isOwn_non, isOwn_tup, isOwn_lst, isOwn_own, decide_true, decide_false, truth_bl, if_true, if_false, Bool.false_eq_true, lockOf_zo, lockOf_zf, lockOf_zn, lockOf_s, lockOf_n, List.length_cons, List.length_nil, List.set_cons_zero, List.set_cons_succ, Nat.reduceAdd, Nat.reduceLT, ownsX_z, ownsX_s, ownsL_z, ownsL_s, Bool.not_true, Bool.not_false, outsE, bop_add, bop_sub, cop_gt, cop_ge, cop_lt, cop_le, bi_int, bi_intb, bi_abs, bi_lenL, bi_lenT, List.any_cons, List.any_nil, Bool.or_false, Bool.false_or, f10, b10, t1, t2, t3, cop_neB, cop_eqI, cm, all_tt]
theorem same_ok (k : Nat) : ∀ (n : Nat) (d : D), sd n d = true → ∃ o, callF T (k + n + 1) 10 [.fz d, .fz d] = .ok (.bl true, o)
  | n, .str s, _ => by
    rw [callF_eq (k + n) (F := f10) rfl rfl rfl]
    refine ⟨[.no, .no], ?_⟩
    have t1 : tyAny (.str s) [.list, .tuple] = some false := rfl
    have t2 : tyAny (.str s) [.bool, .str] = some true := rfl
    have t3 : tyAny (.str s) [.bool] = some false := rfl
    have q : cop .eq (.str s) (.str s) = some true := by show some (s == s) = _; rw [beq_self_eq_true]
    simp -implicitDefEqProofs only [List.replicate, List.cons_append, List.nil_append, evSs_c, evSs_n, thenS_next, thenS_ret, thenS_brk, thenS_cont, thenS_ex, retF_ret, retF_ex, retF_next, R.bind_ok, R.bind_ex, R.of_some, getE_z, getE_s, getE_n, ev_c, ev_v, kVar_fz, kVar_ow, ev_g, kPure_some, kBool_some, ev_tup, ev_lst, ev_bin, kBin_eq, kBin2_eq, ev_cmp, kCmp_eq, kCmp2_eq, ev_chain, kChain_eq, kChain2_eq, kChain3_t, kChain3_f, ev_isN, ev_notN, ev_not, kNot_eq, ev_and, kAnd_bl, kAnd2_t, kAnd2_f, ev_or, kOr_bl, kOr_lst, kOr2_t, kOr2_f, ev_ife, kIfe_eq, kIfe2_t, kIfe2_f, ev_sub, kSub_eq, kSub2_int, ev_slc, kSlc_eq, kSlc2_eq, kSlc3_eq, ev_calln, ev_bi, kBi_1, kBi_2, ev_isi, kIsi_eq, ev_isx, kIsx_eq, ev_me, kMe2_1, es_n, es_c, kEs_eq, st_asg, st_ret, st_if, kIf_eq, kIf2_t, kIf2_f, st_for, st_unp, st_expr, kExpr_eq, st_rais, st_pass, st_try, kTry_ok, st_set, st_fz, kFz_fz, kFz_no, kOwn_lst, kAsg_eq, kRet_eq, kSto_ok, kIsN_eq, kSeq_ok, Nat.reduceLeDiff, beq_tf, beq_ft, beq_tt, beq_ff, isNon_int, isNon_str, isNon_lst, isNon_tup, isNon_exc, isNon_bl, isNon_non, isOwn_exc, kUnp_2, kUnp_3, res_int, res_bl, res_str, res_lst, res_tup, res_non, nst_c, nst_v, nst_ov, nst_g, nst_tup, nst_lst, nst_bin, nst_neg, nst_cmp, nst_chain, nst_isN, nst_notN, nst_not, nst_and, nst_or, nst_ife, nst_sub, nst_slc, nst_rev, nst_call, nst_call1, nst_bi, nst_isi, nst_isx, nst_me, nst_pop, nst_popAt, nst_comp, nst_bad, isOwn_int, isOwn_bl, isOwn_str, isOwn_non, isOwn_tup, isOwn_lst, isOwn_own, decide_true, decide_false, truth_bl, if_true, if_false, Bool.false_eq_true, lockOf_zo, lockOf_zf, lockOf_zn, lockOf_s, lockOf_n, List.length_cons, List.length_nil, List.set_cons_zero, List.set_cons_succ, Nat.reduceAdd, Nat.reduceLT, ownsX_z, ownsX_s, ownsL_z, ownsL_s, Bool.not_true, Bool.not_false, outsE, bop_add, bop_sub, cop_gt, cop_ge, cop_lt, cop_le, bi_int, bi_intb, bi_abs, bi_lenL, bi_lenT, List.any_cons, List.any_nil, Bool.or_false, Bool.false_or, f10, b10, t1, t2, t3, q, cop_eqB]
  | n, .int s, _ => by
    rw [callF_eq (k + n) (F := f10) rfl rfl rfl]
    refine ⟨[.no, .no], ?_⟩
    have t1 : tyAny (.int s) [.list, .tuple] = some false := rfl
    have t2 : tyAny (.int s) [.bool, .str] = some false := rfl
    have t3 : tyAny (.int s) [.bool] = some false := rfl
    have t4 : tyAny (.int s) [.int] = some true := rfl
    simp -implicitDefEqProofs only [List.replicate, List.cons_append, List.nil_append, evSs_c, evSs_n, thenS_next, thenS_ret, thenS_brk, thenS_cont, thenS_ex, retF_ret, retF_ex, retF_next, R.bind_ok, R.bind_ex, R.of_some, getE_z, getE_s, getE_n, ev_c, ev_v, kVar_fz, kVar_ow, ev_g, kPure_some, kBool_some, ev_tup, ev_lst, ev_bin, kBin_eq, kBin2_eq, ev_cmp, kCmp_eq, kCmp2_eq, ev_chain, kChain_eq, kChain2_eq, kChain3_t, kChain3_f, ev_isN, ev_notN, ev_not, kNot_eq, ev_and, kAnd_bl, kAnd2_t, kAnd2_f, ev_or, kOr_bl, kOr_lst, kOr2_t, kOr2_f, ev_ife, kIfe_eq, kIfe2_t, kIfe2_f, ev_sub, kSub_eq, kSub2_int, ev_slc, kSlc_eq, kSlc2_eq, kSlc3_eq, ev_calln, ev_bi, kBi_1, kBi_2, ev_isi, kIsi_eq, ev_isx, kIsx_eq, ev_me, kMe2_1, es_n, es_c, kEs_eq, st_asg, st_ret, st_if, kIf_eq, kIf2_t, kIf2_f, st_for, st_unp, st_expr, kExpr_eq, st_rais, st_pass, st_try, kTry_ok, st_set, st_fz, kFz_fz, kFz_no, kOwn_lst, kAsg_eq, kRet_eq, kSto_ok, kIsN_eq, kSeq_ok, Nat.reduceLeDiff, beq_tf, beq_ft, beq_tt, beq_ff, isNon_int, isNon_str, isNon_lst, isNon_tup, isNon_exc, isNon_bl, isNon_non, isOwn_exc, kUnp_2, kUnp_3, res_int, res_bl, res_str, res_lst, res_tup, res_non, nst_c, nst_v, nst_ov, nst_g, nst_tup, nst_lst, nst_bin, nst_neg, nst_cmp, nst_chain, nst_isN, nst_notN, nst_not, nst_and, nst_or, nst_ife, nst_sub, nst_slc, nst_rev, nst_call, nst_call1, nst_bi, nst_isi, nst_isx, nst_me, nst_pop, nst_popAt, nst_comp, nst_bad, isOwn_int, isOwn_bl, isOwn_str, isOwn_non, isOwn_tup, isOwn_lst, isOwn_own, decide_true, decide_false, truth_bl, if_true, if_false, Bool.false_eq_true, lockOf_zo, lockOf_zf, lockOf_zn, lockOf_s, lockOf_n, List.length_cons, List.length_nil, List.set_cons_zero, List.set_cons_succ, Nat.reduceAdd, Nat.reduceLT, ownsX_z, ownsX_s, ownsL_z, ownsL_s, Bool.not_true, Bool.not_false, outsE, bop_add, bop_sub, cop_gt, cop_ge, cop_lt, cop_le, bi_int, bi_intb, bi_abs, bi_lenL, bi_lenT, List.any_cons, List.any_nil, Bool.or_false, Bool.false_or, f10, b10, t1, t2, t3, t4, cop_eqI]
  | n + 1, .lst ds, h => by
    rw [sd, Bool.and_eq_true, decide_eq_true_eq] at h
    exact same_seq .lst (.inl rfl) h.1 h.2 fun d hd => same_ok k n d hd
  | n + 1, .tup ds, h => by
    rw [sd, Bool.and_eq_true, decide_eq_true_eq] at h
    exact same_seq .tup (.inr rfl) h.1 h.2 fun d hd => same_ok k n d hd
  | 0, .lst _, h => by cases h
  | 0, .tup _, h => by cases h
  | 0, .non, h => by cases h
  | n + 1, .non, h => by cases h
  | 0, .bl _, h => by cases h
  | n + 1, .bl _, h => by cases h
  | 0, .dct _, h => by cases h
  | n + 1, .dct _, h => by cases h
  | 0, .obj _ _, h => by cases h
  | n + 1, .obj _ _, h => by cases h
  | 0, .exc _ _, h => by cases h
  | n + 1, .exc _ _, h => by cases h
  | 0, .own _, h => by cases h
  | n + 1, .own _, h => by cases h
/-! ### lists -/
theorem lists_flat (k : Nat) {d : D} (h : tyAny d [.list, .tuple] = some false) (hr : ∀ env, res env d = d) (hn : isOwn d = false) : callF T (k + 1) 9 [.fz d] = .ok (d, [.no]) := by
  rw [callF_eq k (F := f9) rfl rfl rfl]
  simp -implicitDefEqProofs only [List.replicate, List.cons_append, List.nil_append, evSs_c, evSs_n, thenS_next, thenS_ret, thenS_brk, thenS_cont, thenS_ex, retF_ret, retF_ex, retF_next, R.bind_ok, R.bind_ex, R.of_some, getE_z, getE_s, getE_n, ev_c, ev_v, kVar_fz, kVar_ow, ev_g, kPure_some, kBool_some, ev_tup, ev_lst, ev_bin, kBin_eq, kBin2_eq, ev_cmp, kCmp_eq, kCmp2_eq, ev_chain, kChain_eq, kChain2_eq, kChain3_t, kChain3_f, ev_isN, ev_notN, ev_not, kNot_eq, ev_and, kAnd_bl, kAnd2_t, kAnd2_f, ev_or, kOr_bl, kOr_lst, kOr2_t, kOr2_f, ev_ife, kIfe_eq, kIfe2_t, kIfe2_f, ev_sub, kSub_eq, kSub2_int, ev_slc, kSlc_eq, kSlc2_eq, kSlc3_eq, ev_calln, ev_bi, kBi_1, kBi_2, ev_isi, kIsi_eq, ev_isx, kIsx_eq, ev_me, kMe2_1, es_n, es_c, kEs_eq, st_asg, st_ret, st_if, kIf_eq, kIf2_t, kIf2_f, st_for, st_unp, st_expr, kExpr_eq, st_rais, st_pass, st_try, kTry_ok, st_set, st_fz, kFz_fz, kFz_no, kOwn_lst, kAsg_eq, kRet_eq, kSto_ok, kIsN_eq, kSeq_ok, Nat.reduceLeDiff, beq_tf, beq_ft, beq_tt, beq_ff, isNon_int, isNon_str, isNon_lst, isNon_tup, isNon_exc, isNon_bl, isNon_non, isOwn_exc, kUnp_2, kUnp_3, res_int, res_bl, res_str, res_lst, res_tup, res_non, nst_c, nst_v, nst_ov, nst_g, nst_tup, nst_lst, nst_bin, nst_neg, nst_cmp, nst_chain, nst_isN, nst_notN, nst_not, nst_and, nst_or, nst_ife, nst_sub, nst_slc, nst_rev, nst_call, nst_call1, nst_bi, nst_isi, nst_isx, nst_me, nst_pop, nst_popAt, nst_comp, nst_bad, isOwn_int, isOwn_bl, isOwn_str, isOwn_non, isOwn_tup, isOwn_lst, isOwn_own, decide_true, decide_false, truth_bl, if_true, if_false, Bool.false_eq_true, lockOf_zo, lockOf_zf, lockOf_zn, lockOf_s, lockOf_n, List.length_cons, List.length_nil, List.set_cons_zero, List.set_cons_succ, Nat.reduceAdd, Nat.reduceLT, ownsX_z, ownsX_s, ownsL_z, ownsL_s, Bool.not_true, Bool.not_false, outsE, bop_add, bop_sub, cop_gt, cop_ge, cop_lt, cop_le, bi_int, bi_intb, bi_abs, bi_lenL, bi_lenT, List.any_cons, List.any_nil, Bool.or_false, Bool.false_or, f9, b9, h, hr, hn]
theorem lists_seq (k : Nat) {ds : List D} (mk : List D → D) (hmk : mk = .lst ∨ mk = .tup) (hl : ds.length ≤ 1000) (g : D → D) (h : ∀ d ∈ ds, isOwn d = false ∧ isOwn (g d) = false ∧ ∃ o, callF T k 9 [.fz d] = .ok (g d, o)) : callF T (k + 1) 9 [.fz (mk ds)] = .ok (.lst (ds.map g), [.no]) := by
  have cm : evE T (callF T k) (lockOf [.fz (mk ds)]) (.comp [1] (.n 1) .seq [(.v 0)] [] true (.call 9 [(.v 1)] [])) [.fz (mk ds), .no] = .ok (.lst (ds.map g), [.fz (mk ds), .no]) := by
    have hz : itD .seq [mk ds] = some ds := by rcases hmk with rfl | rfl <;> rfl
    have hno : [mk ds].any isOwn = false := by rcases hmk with rfl | rfl <;> rfl
    rw [ev_comp1 (ds := [mk ds]) (xs := ds) (t := fun _ => true) (g := g) ?_ hno hz (show 1 < 2 by decide) rfl rfl ?_ (Nat.le_trans hl (by decide))]
    · rw [filter_tt]
    · simp -implicitDefEqProofs only [List.replicate, List.cons_append, List.nil_append, evSs_c, evSs_n, thenS_next, thenS_ret, thenS_brk, thenS_cont, thenS_ex, retF_ret, retF_ex, retF_next, R.bind_ok, R.bind_ex, R.of_some, getE_z, getE_s, getE_n, ev_c, ev_v, kVar_fz, kVar_ow, ev_g, kPure_some, kBool_some, ev_tup, ev_lst, ev_bin, kBin_eq, kBin2_eq, ev_cmp, kCmp_eq, kCmp2_eq, ev_chain, kChain_eq, kChain2_eq, kChain3_t, kChain3_f, ev_isN, ev_notN, ev_not, kNot_eq, ev_and, kAnd_bl, kAnd2_t, kAnd2_f, ev_or, kOr_bl, kOr_lst, kOr2_t, kOr2_f, ev_ife, kIfe_eq, kIfe2_t, kIfe2_f, ev_sub, kSub_eq, kSub2_int, ev_slc, kSlc_eq, kSlc2_eq, kSlc3_eq, ev_calln, ev_bi, kBi_1, kBi_2, ev_isi, kIsi_eq, ev_isx, kIsx_eq, ev_me, kMe2_1, es_n, es_c, kEs_eq, st_asg, st_ret, st_if, kIf_eq, kIf2_t, kIf2_f, st_for, st_unp, st_expr, kExpr_eq, st_rais, st_pass, st_try, kTry_ok, st_set, st_fz, kFz_fz, kFz_no, kOwn_lst, kAsg_eq, kRet_eq, kSto_ok, kIsN_eq, kSeq_ok, Nat.reduceLeDiff, beq_tf, beq_ft, beq_tt, beq_ff, isNon_int, isNon_str, isNon_lst, isNon_tup, isNon_exc, isNon_bl, isNon_non, isOwn_exc, kUnp_2, kUnp_3, res_int, res_bl, res_str, res_lst, res_tup, res_non, nst_c, nst_v, nst_ov, nst_g, nst_tup, nst_lst, nst_bin, nst_neg, nst_cmp, nst_chain, nst_isN, nst_notN, nst_not, nst_and, nst_or, nst_ife, nst_sub, nst_slc, nst_rev, nst_call, nst_call1, nst_bi, nst_isi, nst_isx, nst_me, nst_pop, nst_popAt, nst_comp, nst_bad, isOwn_int, isOwn_bl, isOwn_str, isOwn_non, isOwn_tup, isOwn_lst, isOwn_own, decide_true, decide_false, truth_bl, if_true, if_false, Bool.false_eq_true, lockOf_zo, lockOf_zf, lockOf_zn, lockOf_s, lockOf_n, List.length_cons, List.length_nil, List.set_cons_zero, List.set_cons_succ, Nat.reduceAdd, Nat.reduceLT, ownsX_z, ownsX_s, ownsL_z, ownsL_s, Bool.not_true, Bool.not_false, outsE, bop_add, bop_sub, cop_gt, cop_ge, cop_lt, cop_le, bi_int, bi_intb, bi_abs, bi_lenL, bi_lenT, List.any_cons, List.any_nil, Bool.or_false, Bool.false_or]
    · intro d hd
      obtain ⟨h1, h2, o, h3⟩ := h d hd
      refine ⟨h1, evTs_nil .., fun _ => ⟨?_, h2⟩⟩
      have ho : entOf [] d = some (.fz d) := by cases d <;> first | rfl | cases h1
      have cc := fun env => c1 (b := .non) ho h1 h3 env
      simp -implicitDefEqProofs only [List.replicate, List.cons_append, List.nil_append, evSs_c, evSs_n, thenS_next, thenS_ret, thenS_brk, thenS_cont, thenS_ex, retF_ret, retF_ex, retF_next, R.bind_ok, R.bind_ex, R.of_some, getE_z, getE_s, getE_n, ev_c, ev_v, kVar_fz, kVar_ow, ev_g, kPure_some, kBool_some, ev_tup, ev_lst, ev_bin, kBin_eq, kBin2_eq, ev_cmp, kCmp_eq, kCmp2_eq, ev_chain, kChain_eq, kChain2_eq, kChain3_t, kChain3_f, ev_isN, ev_notN, ev_not, kNot_eq, ev_and, kAnd_bl, kAnd2_t, kAnd2_f, ev_or, kOr_bl, kOr_lst, kOr2_t, kOr2_f, ev_ife, kIfe_eq, kIfe2_t, kIfe2_f, ev_sub, kSub_eq, kSub2_int, ev_slc, kSlc_eq, kSlc2_eq, kSlc3_eq, ev_calln, ev_bi, kBi_1, kBi_2, ev_isi, kIsi_eq, ev_isx, kIsx_eq, ev_me, kMe2_1, es_n, es_c, kEs_eq, st_asg, st_ret, st_if, kIf_eq, kIf2_t, kIf2_f, st_for, st_unp, st_expr, kExpr_eq, st_rais, st_pass, st_try, kTry_ok, st_set, st_fz, kFz_fz, kFz_no, kOwn_lst, kAsg_eq, kRet_eq, kSto_ok, kIsN_eq, kSeq_ok, Nat.reduceLeDiff, beq_tf, beq_ft, beq_tt, beq_ff, isNon_int, isNon_str, isNon_lst, isNon_tup, isNon_exc, isNon_bl, isNon_non, isOwn_exc, kUnp_2, kUnp_3, res_int, res_bl, res_str, res_lst, res_tup, res_non, nst_c, nst_v, nst_ov, nst_g, nst_tup, nst_lst, nst_bin, nst_neg, nst_cmp, nst_chain, nst_isN, nst_notN, nst_not, nst_and, nst_or, nst_ife, nst_sub, nst_slc, nst_rev, nst_call, nst_call1, nst_bi, nst_isi, nst_isx, nst_me, nst_pop, nst_popAt, nst_comp, nst_bad, isOwn_int, isOwn_bl, isOwn_str, isOwn_non, isOwn_tup, isOwn_lst, isOwn_own, decide_true, decide_false, truth_bl, if_true, if_false, Bool.false_eq_true, lockOf_zo, lockOf_zf, lockOf_zn, lockOf_s, lockOf_n, List.length_cons, List.length_nil, List.set_cons_zero, List.set_cons_succ, Nat.reduceAdd, Nat.reduceLT, ownsX_z, ownsX_s, ownsL_z, ownsL_s, Bool.not_true, Bool.not_false, outsE, bop_add, bop_sub, cop_gt, cop_ge, cop_lt, cop_le, bi_int, bi_intb, bi_abs, bi_lenL, bi_lenT, List.any_cons, List.any_nil, Bool.or_false, Bool.false_or, kCall_1 T (callF T k) (f := 9) (F := f9) rfl rfl, cc]
  rw [callF_eq k (F := f9) rfl rfl rfl]
  have t1 : tyAny (mk ds) [.list, .tuple] = some true := by rcases hmk with rfl | rfl <;> rfl
  have hr : ∀ env, res env (mk ds) = mk ds := by rcases hmk with rfl | rfl <;> exact fun _ => rfl
  simp -implicitDefEqProofs only [List.replicate, List.cons_append, List.nil_append, evSs_c, evSs_n, thenS_next, thenS_ret, thenS_brk, thenS_cont, thenS_ex, retF_ret, retF_ex, retF_next, R.bind_ok, R.bind_ex, R.of_some, getE_z, getE_s, getE_n, ev_c, ev_v, kVar_fz, kVar_ow, ev_g, kPure_some, kBool_some, ev_tup, ev_lst, ev_bin, kBin_eq, kBin2_eq, ev_cmp, kCmp_eq, kCmp2_eq, ev_chain, kChain_eq, kChain2_eq, kChain3_t, kChain3_f, ev_isN, ev_notN, ev_not, kNot_eq, ev_and, kAnd_bl, kAnd2_t, kAnd2_f, ev_or, kOr_bl, kOr_lst, kOr2_t, kOr2_f, ev_ife, kIfe_eq, kIfe2_t, kIfe2_f, ev_sub, kSub_eq, kSub2_int, ev_slc, kSlc_eq, kSlc2_eq, kSlc3_eq, ev_calln, ev_bi, kBi_1, kBi_2, ev_isi, kIsi_eq, ev_isx, kIsx_eq, ev_me, kMe2_1, es_n, es_c, kEs_eq, st_asg, st_ret, st_if, kIf_eq, kIf2_t, kIf2_f, st_for, st_unp, st_expr, kExpr_eq, st_rais, st_pass, st_try, kTry_ok, st_set, st_fz, kFz_fz, kFz_no, kOwn_lst, kAsg_eq, kRet_eq, kSto_ok, kIsN_eq, kSeq_ok, Nat.reduceLeDiff, beq_tf, beq_ft, beq_tt, beq_ff, isNon_int, isNon_str, isNon_lst, isNon_tup, isNon_exc, isNon_bl, isNon_non, isOwn_exc, kUnp_2, kUnp_3, res_int, res_bl, res_str, res_lst, res_tup, res_non, nst_c, nst_v, nst_ov, nst_g, nst_tup, nst_lst, nst_bin, nst_neg, nst_cmp, nst_chain, nst_isN, nst_notN, nst_not, nst_and, nst_or, nst_ife, nst_sub, nst_slc, nst_rev, nst_call, nst_call1, nst_bi, nst_isi, nst_isx, nst_me, nst_pop, nst_popAt, nst_comp, nst_bad, isOwn_int, isOwn_bl, isOwn_str, isOwn_non, isOwn_tup, isOwn_lst, isOwn_own, decide_true, decide_false, truth_bl, if_true, if_false, Bool.false_eq_true, lockOf_zo, lockOf_zf, lockOf_zn, lockOf_s, lockOf_n, List.length_cons, List.length_nil, List.set_cons_zero, List.set_cons_succ, Nat.reduceAdd, Nat.reduceLT, ownsX_z, ownsX_s, ownsL_z, ownsL_s, Bool.not_true, Bool.not_false, outsE, bop_add, bop_sub, cop_gt, cop_ge, cop_lt, cop_le, bi_int, bi_intb, bi_abs, bi_lenL, bi_lenT, List.any_cons, List.any_nil, Bool.or_false, Bool.false_or, f9, b9, t1, hr, cm]
theorem lists_pair (k : Nat) (p : Pr) : callF T (k + 2) 9 [.fz (pD p)] = .ok (pL p, [.no]) :=
  lists_seq (k + 1) (ds := [st p.1, .int p.2]) .tup (.inr rfl) (by simp) (fun d => d) fun d hd => by
    simp only [List.mem_cons, List.not_mem_nil, or_false] at hd
    rcases hd with rfl | rfl
    · exact ⟨rfl, rfl, _, lists_flat k rfl (fun _ => rfl) rfl⟩
    · exact ⟨rfl, rfl, _, lists_flat k rfl (fun _ => rfl) rfl⟩
theorem lists_ok (k : Nat) {ps : List Pr} (hl : ps.length ≤ 1000) : callF T (k + 3) 9 [.fz (.tup (ps.map pD))] = .ok (.lst (ps.map pL), [.no]) := by
  have := lists_seq (k + 2) (ds := ps.map pD) .tup (.inr rfl) (by rw [List.length_map]; exact hl) (fun d => match d with
    | .tup ds => .lst ds
    | d => d) fun d hd => by
      obtain ⟨p, hp, rfl⟩ := List.mem_map.mp hd
      exact ⟨rfl, rfl, _, lists_pair k p⟩
  rw [List.map_map] at this
  exact this
end K90

set_option linter.all false
set_option Elab.async false
set_option maxRecDepth 100000
/-! P90k: what is said of a crowd, and read again (own work; printed from P90k.tpl by exp.py). -/
namespace K90
open IV

structure PrOk (p : Pr) : Prop where
  kd : kindB p.1 = true
  len : p.1.length ≤ 10
  lo : 1 ≤ p.2
  hi : p.2 < 10 ^ 31
theorem num_len {n : Int} (h0 : 0 ≤ n) (h : n < 10 ^ 31) : (num n).length ≤ 31 := by
  have := PyProof.Rows.toString_length_le h0 (k := 31) (by decide) h
  rw [TL.len_tl] at this
  exact this
theorem num_eq (m : Nat) : num (m : Int) = (Nat.toDigits 10 m).map Char.toNat := PySem.W.KIN.signs_num m
theorem num_dig {n : Int} (h0 : 0 ≤ n) : ∀ c ∈ num n, 48 ≤ c ∧ c ≤ 57 := by
  obtain ⟨m, rfl⟩ := Int.eq_ofNat_of_zero_le h0
  intro c hc
  rw [num_eq] at hc
  obtain ⟨ch, hch, e⟩ := List.mem_map.mp hc
  rw [← e]
  exact PyProof.Rows.digit_range (Nat.isDigit_of_mem_toDigits (by decide) (by decide) hch)
theorem num_ne {n : Int} (h0 : 0 ≤ n) : num n ≠ [] := by
  obtain ⟨m, rfl⟩ := Int.eq_ofNat_of_zero_le h0
  rw [num_eq]
  intro e
  have h := PySem.toDigits_len_ge 10 m
  rw [List.map_eq_nil_iff.mp e] at h
  exact absurd h (by decide)
theorem num_val {n : Int} (h0 : 0 ≤ n) : ((PySem.NumText.digitsVal (num n) : Nat) : Int) = n := by
  obtain ⟨m, rfl⟩ := Int.eq_ofNat_of_zero_le h0
  rw [num_eq, PySem.W.KIN.val_back]
theorem head_ne : ∀ m : Nat, 0 < m → ((Nat.toDigits 10 m).map Char.toNat).head? ≠ some 48 := by
  intro m
  induction m using Nat.strongRecOn with
  | _ m ih =>
    intro hm
    by_cases h : m < 10
    · rw [Nat.toDigits_of_lt_base h]
      have : ∀ d : Nat, d < 10 → 0 < d → (([Nat.digitChar d]).map Char.toNat).head? ≠ some 48 := by decide
      exact this m h hm
    · have hm2 : m % 10 < 10 := Nat.mod_lt m (by decide)
      have t : Nat.toDigits 10 (m / 10) ++ Nat.toDigits 10 (m % 10) = Nat.toDigits 10 (10 * (m / 10) + m % 10) := Nat.toDigits_append_toDigits (by decide) (by omega) hm2
      rw [Nat.div_add_mod] at t
      rw [← t, List.map_append]
      have ih := ih (m / 10) (by omega) (by omega)
      have hl := PySem.toDigits_len_ge 10 (m / 10)
      cases e : Nat.toDigits 10 (m / 10) with
      | nil => rw [e] at hl; simp at hl
      | cons a r => rw [e] at ih; simpa using ih
theorem numIn_num {n : Int} (h1 : 1 ≤ n) : numIn (num n) = .int n := by
  have h0 : 0 ≤ n := by omega
  have hd : (num n).all (fun c => decide (c ∈ DIG)) = true := by
    rw [List.all_eq_true]
    intro c hc
    have := num_dig h0 c hc
    rw [decide_eq_true_eq]
    simp [DIG]; omega
  have hh : (num n).head? ≠ some 48 := by
    obtain ⟨m, rfl⟩ := Int.eq_ofNat_of_zero_le h0
    rw [num_eq]
    exact head_ne m (by omega)
  unfold numIn
  rw [if_neg (num_ne h0), hd, if_pos rfl, if_neg (fun q => hh q.1), num_val h0]
theorem kind_mem {l : List Nat} (h : kindB l = true) : l ≠ [] ∧ ∀ c ∈ l, 97 ≤ c ∧ c ≤ 122 := by
  unfold kindB at h
  rw [Bool.and_eq_true] at h
  refine ⟨by simpa using h.1, fun c hc => (let_iff c).mp ?_⟩
  have := List.all_eq_true.mp h.2 c hc
  simpa using this
theorem one_par {p : Pr} (h : PrOk p) : TL.par [32] [] (one p) = some (p.1, num p.2) := by
  have h32 : 32 ∉ p.1 := fun q => by have := (kind_mem h.kd).2 32 q; omega
  have := TL.par_part1 (S := []) (acc := []) (rest := num p.2) h32
  unfold one
  rw [List.append_assoc]
  exact this
theorem pairIn_one {p : Pr} (h : PrOk p) : pairIn (one p) = pD p := by
  have h1 := h.lo
  unfold pairIn
  rw [one_par h]
  simp only [h.kd, if_true, numIn_num h.lo]
  rw [if_neg (by omega)]
  rfl
theorem name_one {p : Pr} (h : PrOk p) : name (one p) = p.1 := by
  unfold name; rw [one_par h]
theorem one_len {p : Pr} (h : PrOk p) : (one p).length ≤ 42 := by
  have h1 := h.len
  have h2 := num_len (n := p.2) (by have := h.lo; omega) h.hi
  unfold one; simp; omega
theorem one_mem {p : Pr} (h : PrOk p) {c : Nat} (hc : c ∈ one p) : c = 32 ∨ (48 ≤ c ∧ c ≤ 57) ∨ (97 ≤ c ∧ c ≤ 122) := by
  unfold one at hc
  rcases List.mem_append.mp hc with hc | hc
  · rcases List.mem_append.mp hc with hc | hc
    · exact .inr (.inr ((kind_mem h.kd).2 c hc))
    · exact .inl (List.mem_singleton.mp hc)
  · exact .inr (.inl (num_dig (by have := h.lo; omega) c hc))
/-- a crowd -/
structure LotOk (ps : List Pr) : Prop where
  each : ∀ p ∈ ps, PrOk p
  up : rise (ps.map (·.1)) = true
  few : ps.length ≤ 6
theorem join_head {ps : List Pr} (h : ∀ p ∈ ps, PrOk p) (hne : ps ≠ []) : ∃ c r, TL.joinL CM (ps.map one) = c :: r ∧ 97 ≤ c := by
  match ps, hne with
  | p :: ps, _ =>
    have hp := h p List.mem_cons_self
    obtain ⟨hx, hm⟩ := kind_mem hp.kd
    obtain ⟨c, r, e⟩ : ∃ c r, p.1 = c :: r := by
      cases q : p.1 with
      | nil => exact absurd q hx
      | cons c r => exact ⟨c, r, rfl⟩
    have hc := (hm c (by rw [e]; exact List.mem_cons_self)).1
    have e1 : one p = c :: (r ++ [32] ++ num p.2) := by unfold one; rw [e]; rfl
    cases ps with
    | nil => exact ⟨c, _, e1, hc⟩
    | cons q ps => exact ⟨c, _, by show one p ++ (CM ++ _) = _; rw [e1]; rfl, hc⟩
theorem parts_say {ps : List Pr} (h : ∀ p ∈ ps, PrOk p) (hne : ps ≠ []) : parts (say ps) = ps.map one := by
  unfold say
  rw [if_neg hne]
  refine TL.spl_join (by simpa using hne) fun p hp hc => ?_
  obtain ⟨q, hq, rfl⟩ := List.mem_map.mp hp
  have := one_mem (h q hq) hc
  omega
theorem crowdIn_say {ps : List Pr} (h : LotOk ps) : crowdIn (say ps) = some (ps.map pD) := by
  by_cases hne : ps = []
  · subst hne; rfl
  · have h45 : say ps ≠ [45] := by
      obtain ⟨c, r, e, hc⟩ := join_head h.each hne
      unfold say
      rw [if_neg hne, e]
      intro z
      injection z with z1 z2
      omega
    unfold crowdIn
    rw [if_neg h45, parts_say h.each hne]
    have e1 : (ps.map one).all okP = true := by
      rw [List.all_eq_true]
      intro p hp
      obtain ⟨q, hq, rfl⟩ := List.mem_map.mp hp
      unfold okP
      rw [pairIn_one (h.each q hq)]
      rfl
    have e2 : (ps.map one).map name = ps.map (·.1) := by
      rw [List.map_map]
      exact List.map_congr_left fun p hp => name_one (h.each p hp)
    have e3 : (ps.map one).map pairIn = ps.map pD := by
      rw [List.map_map]
      exact List.map_congr_left fun p hp => pairIn_one (h.each p hp)
    rw [e1, e2, h.up, e3]
    rfl
theorem joinL_len : ∀ {ls : List (List Nat)} {n : Nat}, (∀ l ∈ ls, l.length ≤ n) → (TL.joinL CM ls).length ≤ ls.length * (n + 2)
  | [], n, _ => by simp [TL.joinL]
  | [l], n, h => by
    have := h l List.mem_cons_self
    show l.length ≤ _
    simp; omega
  | l :: m :: r, n, h => by
    have h1 := h l List.mem_cons_self
    have ih := joinL_len (ls := m :: r) fun q hq => h q (List.mem_cons_of_mem _ hq)
    show (l ++ (CM ++ TL.joinL CM (m :: r))).length ≤ _
    have e : (l :: m :: r).length * (n + 2) = (m :: r).length * (n + 2) + (n + 2) := by rw [List.length_cons, Nat.succ_mul]
    have : CM.length = 2 := rfl
    rw [List.length_append, List.length_append, e]
    omega
theorem say_len {ps : List Pr} (h : LotOk ps) : (say ps).length ≤ 270 := by
  unfold say
  split
  · simp
  · have := joinL_len (ls := ps.map one) (n := 42) fun l hl => by
      obtain ⟨p, hp, rfl⟩ := List.mem_map.mp hl
      exact one_len (h.each p hp)
    have hf := h.few
    rw [List.length_map] at this
    omega
theorem joinL_mem {c : Nat} : ∀ {ls : List (List Nat)}, c ∈ TL.joinL CM ls → c ∈ CM ∨ ∃ l ∈ ls, c ∈ l
  | [], h => by cases h
  | [l], h => .inr ⟨l, List.mem_cons_self, h⟩
  | l :: m :: r, h => by
    rcases List.mem_append.mp (show c ∈ l ++ (CM ++ TL.joinL CM (m :: r)) from h) with h | h
    · exact .inr ⟨l, List.mem_cons_self, h⟩
    · rcases List.mem_append.mp h with h | h
      · exact .inl h
      · rcases joinL_mem h with h | ⟨q, hq, h⟩
        · exact .inl h
        · exact .inr ⟨q, List.mem_cons_of_mem _ hq, h⟩
theorem say_asc {ps : List Pr} (h : LotOk ps) : ∀ c ∈ say ps, c < 128 := by
  intro c hc
  unfold say at hc
  split at hc
  · rcases List.mem_singleton.mp hc with rfl
    decide
  · rcases joinL_mem hc with q | ⟨l, hl, q⟩
    · simp at q; omega
    · obtain ⟨p, hp, rfl⟩ := List.mem_map.mp hl
      have := one_mem (h.each p hp) q
      omega
/-! ### texts made -/
theorem add_st {a b : List Nat} (h : a.length + b.length ≤ 1000) : bop .add (st a) (st b) = some (st (a ++ b)) := by
  show (if a.length + b.length ≤ line then some (D.str ((⟨⟨a⟩⟩ : PySem.Str) ++ ⟨⟨b⟩⟩)) else none) = _
  rw [if_pos (Nat.le_trans h (by decide))]
  congr 2
  exact TL.ext_tl (by rw [TL.tl_append])
theorem bi_str {n : Int} (h0 : 0 ≤ n) (h : n < 10 ^ 31) : biD .str [.int n] = some (st (num n)) := by
  show (if n.natAbs.log2 < 1920 then some (D.str (PySem.Str.ofString (toString n))) else none) = _
  rw [if_pos]
  · exact congrArg (fun s => some (D.str s)) (TL.mk_tl _).symm
  · by_cases hz : n.natAbs = 0
    · rw [hz]; decide
    · have : n.natAbs < 2 ^ 200 := by
        have : (10 : Int) ^ 31 < 2 ^ 200 := by decide
        omega
      have := (Nat.log2_lt hz).mpr this
      omega
theorem join_ok {ls : List (List Nat)} (h : ∀ l ∈ ls, l.length ≤ 100) (hn : ls.length ≤ 100) : meD .join (st CM) [.lst (ls.map st)] = some (st (TL.joinL CM ls)) := by
  show (dStrs (ls.map st)).bind _ = _
  rw [dStrs_map, Option.bind_some]
  have e1 : ((ls.map S).map (·.length)).sum ≤ ls.length * 100 := by
    clear hn
    induction ls with
    | nil => simp
    | cons l r ih =>
      have h1 := h l List.mem_cons_self
      have ih := ih fun q hq => h q (List.mem_cons_of_mem _ hq)
      have e : (S l).length = l.length := rfl
      rw [List.map_cons, List.map_cons, List.sum_cons, List.length_cons, Nat.add_mul, e]
      omega
  rw [if_pos]
  · show some (mkS (TL.joinL CM _)) = _
    rw [List.map_map]
    have : (ls.map ((fun x => x.cps.toList) ∘ S)) = ls := by
      conv => rhs; rw [← List.map_id ls]
      rfl
    rw [this]
    rfl
  · rw [List.length_map]
    have : ((⟨⟨CM⟩⟩ : PySem.Str)).length = 2 := rfl
    rw [this]
    refine Nat.le_trans (m := 20000) ?_ (by decide)
    omega
end K90

set_option linter.all false
set_option Elab.async false
set_option maxRecDepth 100000
/-! P90l: crowd_text, a drawn lot (own work; printed from P90l.tpl by exp.py). -/
namespace K90
open IV

theorem crowd_text_ok (k : Nat) {ps : List Pr} (h : LotOk ps) : callF T (k + 1) 2 [.fz (.lst (ps.map pL))] = .ok (st (say ps), [.no]) := by
  rw [callF_eq k (F := f2) rfl rfl rfl]
  by_cases hne : ps = []
  · subst hne
    have c00 : (((([] : List D).length : Nat) : Int) > 0) = False := by simp
    have c00' : (0 < (((0 : Nat)) : Int)) = False := by simp
    simp -implicitDefEqProofs only [List.replicate, List.cons_append, List.nil_append, evSs_c, evSs_n, thenS_next, thenS_ret, thenS_brk, thenS_cont, thenS_ex, retF_ret, retF_ex, retF_next, R.bind_ok, R.bind_ex, R.of_some, getE_z, getE_s, getE_n, ev_c, ev_v, kVar_fz, kVar_ow, ev_g, kPure_some, kBool_some, ev_tup, ev_lst, ev_bin, kBin_eq, kBin2_eq, ev_cmp, kCmp_eq, kCmp2_eq, ev_chain, kChain_eq, kChain2_eq, kChain3_t, kChain3_f, ev_isN, ev_notN, ev_not, kNot_eq, ev_and, kAnd_bl, kAnd2_t, kAnd2_f, ev_or, kOr_bl, kOr_lst, kOr2_t, kOr2_f, ev_ife, kIfe_eq, kIfe2_t, kIfe2_f, ev_sub, kSub_eq, kSub2_int, ev_slc, kSlc_eq, kSlc2_eq, kSlc3_eq, ev_calln, ev_bi, kBi_1, kBi_2, ev_isi, kIsi_eq, ev_isx, kIsx_eq, ev_me, kMe2_1, es_n, es_c, kEs_eq, st_asg, st_ret, st_if, kIf_eq, kIf2_t, kIf2_f, st_for, st_unp, st_expr, kExpr_eq, st_rais, st_pass, st_try, kTry_ok, st_set, st_fz, kFz_fz, kFz_no, kOwn_lst, kAsg_eq, kRet_eq, kSto_ok, kIsN_eq, kSeq_ok, Nat.reduceLeDiff, beq_tf, beq_ft, beq_tt, beq_ff, isNon_int, isNon_str, isNon_lst, isNon_tup, isNon_exc, isNon_bl, isNon_non, isOwn_exc, kUnp_2, kUnp_3, res_int, res_bl, res_str, res_lst, res_tup, res_non, nst_c, nst_v, nst_ov, nst_g, nst_tup, nst_lst, nst_bin, nst_neg, nst_cmp, nst_chain, nst_isN, nst_notN, nst_not, nst_and, nst_or, nst_ife, nst_sub, nst_slc, nst_rev, nst_call, nst_call1, nst_bi, nst_isi, nst_isx, nst_me, nst_pop, nst_popAt, nst_comp, nst_bad, isOwn_int, isOwn_bl, isOwn_str, isOwn_non, isOwn_tup, isOwn_lst, isOwn_own, decide_true, decide_false, truth_bl, if_true, if_false, Bool.false_eq_true, lockOf_zo, lockOf_zf, lockOf_zn, lockOf_s, lockOf_n, List.length_cons, List.length_nil, List.set_cons_zero, List.set_cons_succ, Nat.reduceAdd, Nat.reduceLT, ownsX_z, ownsX_s, ownsL_z, ownsL_s, Bool.not_true, Bool.not_false, outsE, bop_add, bop_sub, cop_gt, cop_ge, cop_lt, cop_le, bi_int, bi_intb, bi_abs, bi_lenL, bi_lenT, List.any_cons, List.any_nil, Bool.or_false, Bool.false_or, f2, b2, List.map, c00', gl2]
    rfl
  · have hl : (0 < (((ps.map pL).length : Nat) : Int)) := by
      have := List.length_pos_iff.mpr hne
      rw [List.length_map]; omega
    have cm : evE T (callF T k) (lockOf [.fz (.lst (ps.map pL))]) (.comp [1, 2] (.t [1, 2]) .seq [(.v 0)] [] true (.bin .add (.bin .add (.v 1) (.g 4)) (.bi .str [(.v 2)]))) [.fz (.lst (ps.map pL)), .no, .no] = .ok (.lst ((ps.map one).map st), [.fz (.lst (ps.map pL)), .no, .no]) := by
      rw [ev_comp2 (ds := [.lst (ps.map pL)]) (xs := ps.map pL) (t := fun _ => true) (g := fun d => match d with
        | .lst [.str x, .int n] => st (one (x.cps.toList, n))
        | _ => .non) ?_ rfl rfl (show 1 < 3 by decide) (show 2 < 3 by decide) (by decide) rfl rfl rfl ?_ ?_]
      · rw [filter_tt, List.map_map, List.map_map]; rfl
      · simp -implicitDefEqProofs only [List.replicate, List.cons_append, List.nil_append, evSs_c, evSs_n, thenS_next, thenS_ret, thenS_brk, thenS_cont, thenS_ex, retF_ret, retF_ex, retF_next, R.bind_ok, R.bind_ex, R.of_some, getE_z, getE_s, getE_n, ev_c, ev_v, kVar_fz, kVar_ow, ev_g, kPure_some, kBool_some, ev_tup, ev_lst, ev_bin, kBin_eq, kBin2_eq, ev_cmp, kCmp_eq, kCmp2_eq, ev_chain, kChain_eq, kChain2_eq, kChain3_t, kChain3_f, ev_isN, ev_notN, ev_not, kNot_eq, ev_and, kAnd_bl, kAnd2_t, kAnd2_f, ev_or, kOr_bl, kOr_lst, kOr2_t, kOr2_f, ev_ife, kIfe_eq, kIfe2_t, kIfe2_f, ev_sub, kSub_eq, kSub2_int, ev_slc, kSlc_eq, kSlc2_eq, kSlc3_eq, ev_calln, ev_bi, kBi_1, kBi_2, ev_isi, kIsi_eq, ev_isx, kIsx_eq, ev_me, kMe2_1, es_n, es_c, kEs_eq, st_asg, st_ret, st_if, kIf_eq, kIf2_t, kIf2_f, st_for, st_unp, st_expr, kExpr_eq, st_rais, st_pass, st_try, kTry_ok, st_set, st_fz, kFz_fz, kFz_no, kOwn_lst, kAsg_eq, kRet_eq, kSto_ok, kIsN_eq, kSeq_ok, Nat.reduceLeDiff, beq_tf, beq_ft, beq_tt, beq_ff, isNon_int, isNon_str, isNon_lst, isNon_tup, isNon_exc, isNon_bl, isNon_non, isOwn_exc, kUnp_2, kUnp_3, res_int, res_bl, res_str, res_lst, res_tup, res_non, nst_c, nst_v, nst_ov, nst_g, nst_tup, nst_lst, nst_bin, nst_neg, nst_cmp, nst_chain, nst_isN, nst_notN, nst_not, nst_and, nst_or, nst_ife, nst_sub, nst_slc, nst_rev, nst_call, nst_call1, nst_bi, nst_isi, nst_isx, nst_me, nst_pop, nst_popAt, nst_comp, nst_bad, isOwn_int, isOwn_bl, isOwn_str, isOwn_non, isOwn_tup, isOwn_lst, isOwn_own, decide_true, decide_false, truth_bl, if_true, if_false, Bool.false_eq_true, lockOf_zo, lockOf_zf, lockOf_zn, lockOf_s, lockOf_n, List.length_cons, List.length_nil, List.set_cons_zero, List.set_cons_succ, Nat.reduceAdd, Nat.reduceLT, ownsX_z, ownsX_s, ownsL_z, ownsL_s, Bool.not_true, Bool.not_false, outsE, bop_add, bop_sub, cop_gt, cop_ge, cop_lt, cop_le, bi_int, bi_intb, bi_abs, bi_lenL, bi_lenT, List.any_cons, List.any_nil, Bool.or_false, Bool.false_or]
      · intro d hd
        obtain ⟨p, hp, rfl⟩ := List.mem_map.mp hd
        have hk := h.each p hp
        have h1 := hk.len
        have h2 := num_len (n := p.2) (by have := hk.lo; omega) hk.hi
        refine ⟨st p.1, .int p.2, .inr rfl, rfl, rfl, evTs_nil .., fun _ => ⟨?_, rfl⟩⟩
        have a1 : bop .add (st p.1) (st [32]) = some (st (p.1 ++ [32])) := add_st (by simp; omega)
        have a2 : bop .add (st (p.1 ++ [32])) (st (num p.2)) = some (st (p.1 ++ [32] ++ num p.2)) := add_st (by simp; omega)
        have a3 := bi_str (n := p.2) (by have := hk.lo; omega) hk.hi
        simp -implicitDefEqProofs only [List.replicate, List.cons_append, List.nil_append, evSs_c, evSs_n, thenS_next, thenS_ret, thenS_brk, thenS_cont, thenS_ex, retF_ret, retF_ex, retF_next, R.bind_ok, R.bind_ex, R.of_some, getE_z, getE_s, getE_n, ev_c, ev_v, kVar_fz, kVar_ow, ev_g, kPure_some, kBool_some, ev_tup, ev_lst, ev_bin, kBin_eq, kBin2_eq, ev_cmp, kCmp_eq, kCmp2_eq, ev_chain, kChain_eq, kChain2_eq, kChain3_t, kChain3_f, ev_isN, ev_notN, ev_not, kNot_eq, ev_and, kAnd_bl, kAnd2_t, kAnd2_f, ev_or, kOr_bl, kOr_lst, kOr2_t, kOr2_f, ev_ife, kIfe_eq, kIfe2_t, kIfe2_f, ev_sub, kSub_eq, kSub2_int, ev_slc, kSlc_eq, kSlc2_eq, kSlc3_eq, ev_calln, ev_bi, kBi_1, kBi_2, ev_isi, kIsi_eq, ev_isx, kIsx_eq, ev_me, kMe2_1, es_n, es_c, kEs_eq, st_asg, st_ret, st_if, kIf_eq, kIf2_t, kIf2_f, st_for, st_unp, st_expr, kExpr_eq, st_rais, st_pass, st_try, kTry_ok, st_set, st_fz, kFz_fz, kFz_no, kOwn_lst, kAsg_eq, kRet_eq, kSto_ok, kIsN_eq, kSeq_ok, Nat.reduceLeDiff, beq_tf, beq_ft, beq_tt, beq_ff, isNon_int, isNon_str, isNon_lst, isNon_tup, isNon_exc, isNon_bl, isNon_non, isOwn_exc, kUnp_2, kUnp_3, res_int, res_bl, res_str, res_lst, res_tup, res_non, nst_c, nst_v, nst_ov, nst_g, nst_tup, nst_lst, nst_bin, nst_neg, nst_cmp, nst_chain, nst_isN, nst_notN, nst_not, nst_and, nst_or, nst_ife, nst_sub, nst_slc, nst_rev, nst_call, nst_call1, nst_bi, nst_isi, nst_isx, nst_me, nst_pop, nst_popAt, nst_comp, nst_bad, isOwn_int, isOwn_bl, isOwn_str, isOwn_non, isOwn_tup, isOwn_lst, isOwn_own, decide_true, decide_false, truth_bl, if_true, if_false, Bool.false_eq_true, lockOf_zo, lockOf_zf, lockOf_zn, lockOf_s, lockOf_n, List.length_cons, List.length_nil, List.set_cons_zero, List.set_cons_succ, Nat.reduceAdd, Nat.reduceLT, ownsX_z, ownsX_s, ownsL_z, ownsL_s, Bool.not_true, Bool.not_false, outsE, bop_add, bop_sub, cop_gt, cop_ge, cop_lt, cop_le, bi_int, bi_intb, bi_abs, bi_lenL, bi_lenT, List.any_cons, List.any_nil, Bool.or_false, Bool.false_or, gl4, a1, a2, a3]
        rfl
      · rw [List.length_map]; exact Nat.le_trans h.few (by decide)
    have hj := join_ok (ls := ps.map one) (fun l hl => by
      obtain ⟨p, hp, rfl⟩ := List.mem_map.mp hl
      have := one_len (h.each p hp); omega) (by rw [List.length_map]; have := h.few; omega)
    have hmt : meTy .join (st CM) = true := rfl
    simp -implicitDefEqProofs only [List.replicate, List.cons_append, List.nil_append, evSs_c, evSs_n, thenS_next, thenS_ret, thenS_brk, thenS_cont, thenS_ex, retF_ret, retF_ex, retF_next, R.bind_ok, R.bind_ex, R.of_some, getE_z, getE_s, getE_n, ev_c, ev_v, kVar_fz, kVar_ow, ev_g, kPure_some, kBool_some, ev_tup, ev_lst, ev_bin, kBin_eq, kBin2_eq, ev_cmp, kCmp_eq, kCmp2_eq, ev_chain, kChain_eq, kChain2_eq, kChain3_t, kChain3_f, ev_isN, ev_notN, ev_not, kNot_eq, ev_and, kAnd_bl, kAnd2_t, kAnd2_f, ev_or, kOr_bl, kOr_lst, kOr2_t, kOr2_f, ev_ife, kIfe_eq, kIfe2_t, kIfe2_f, ev_sub, kSub_eq, kSub2_int, ev_slc, kSlc_eq, kSlc2_eq, kSlc3_eq, ev_calln, ev_bi, kBi_1, kBi_2, ev_isi, kIsi_eq, ev_isx, kIsx_eq, ev_me, kMe2_1, es_n, es_c, kEs_eq, st_asg, st_ret, st_if, kIf_eq, kIf2_t, kIf2_f, st_for, st_unp, st_expr, kExpr_eq, st_rais, st_pass, st_try, kTry_ok, st_set, st_fz, kFz_fz, kFz_no, kOwn_lst, kAsg_eq, kRet_eq, kSto_ok, kIsN_eq, kSeq_ok, Nat.reduceLeDiff, beq_tf, beq_ft, beq_tt, beq_ff, isNon_int, isNon_str, isNon_lst, isNon_tup, isNon_exc, isNon_bl, isNon_non, isOwn_exc, kUnp_2, kUnp_3, res_int, res_bl, res_str, res_lst, res_tup, res_non, nst_c, nst_v, nst_ov, nst_g, nst_tup, nst_lst, nst_bin, nst_neg, nst_cmp, nst_chain, nst_isN, nst_notN, nst_not, nst_and, nst_or, nst_ife, nst_sub, nst_slc, nst_rev, nst_call, nst_call1, nst_bi, nst_isi, nst_isx, nst_me, nst_pop, nst_popAt, nst_comp, nst_bad, isOwn_int, isOwn_bl, isOwn_str, isOwn_non, isOwn_tup, isOwn_lst, isOwn_own, decide_true, decide_false, truth_bl, if_true, if_false, Bool.false_eq_true, lockOf_zo, lockOf_zf, lockOf_zn, lockOf_s, lockOf_n, List.length_cons, List.length_nil, List.set_cons_zero, List.set_cons_succ, Nat.reduceAdd, Nat.reduceLT, ownsX_z, ownsX_s, ownsL_z, ownsL_s, Bool.not_true, Bool.not_false, outsE, bop_add, bop_sub, cop_gt, cop_ge, cop_lt, cop_le, bi_int, bi_intb, bi_abs, bi_lenL, bi_lenT, List.any_cons, List.any_nil, Bool.or_false, Bool.false_or, f2, b2, hl, gl3, kMe_eq, hmt, cm, hj]
    unfold say
    rw [if_neg hne]
/-! ### a lot -/
def lb : List IS := [.asg 5 (.bin .mul (.call 6 [(.v 0), (.bin .add (.v 2) (.c (.int 1)))] []) (.bi .int [(.cmp .gt (.call 6 [(.v 0), (.c (.int 3))] []) (.c (.int 0)))])), .asg 3 (.bin .add (.v 3) (.bin .mul (.lst [(.tup [(.v 4), (.v 5)])]) (.bi .int [(.cmp .gt (.v 5) (.c (.int 0)))])))]
theorem b11_eq : b11 = [.asg 3 (.lst []), .for_ (.n 4) .seq [(.bi .sorted [(.v 1)])] lb, .ret (.bi .tuple [(.v 3)])] := rfl
abbrev evL (u kd : D) (most : Int) (acc : List Pr) (e4 e5 : Ent) : Env := [.ow u, .fz kd, .fz (.int most), .fz (.lst (acc.map pD)), e4, e5]
theorem mul1 (d : D) : bop .mul (.lst [d]) (.int 1) = some (.lst [d]) := rfl
theorem mul0 (d : D) : bop .mul (.lst [d]) (.int 0) = some (.lst []) := rfl
abbrev lkL (u kd : D) (most : Int) : Lk := lockOf [.ow u, .fz kd, .fz (.int most)]
theorem lkL_eq (u u' kd kd' : D) (most most' : Int) : lkL u kd most = lkL u' kd' most' := by
  funext i
  match i with
  | 0 => rfl
  | 1 => rfl
  | 2 => rfl
  | n + 3 => show lockOf [] n = lockOf [] n; rfl
theorem lot_step (k : Nat) {u u0 kd : D} {m most : Int} {acc : List Pr} {x : List Nat} {e5 : Ent} (hu : UrnOk m u) (hm : m < 999999) (h1 : 1 ≤ most) (h2 : most < 10 ^ 31 - 1) (hacc : acc.length ≤ 100) :
    ∃ ps u' e5', UrnOk (m + 2) u' ∧ (ps = [] ∨ ∃ n, ps = [(x, n)] ∧ 1 ≤ n ∧ n ≤ most) ∧ evSs T (callF T (k + 1)) (lkL u0 kd most) lb (evL u kd most acc (.fz (st x)) e5) = .ok (.next, evL u' kd most (acc ++ ps) (.fz (st x)) e5') := by
  have l1 : (most + 1).natAbs.log2 < 9000 := log_ok (by
    have : (10 : Int) ^ 31 < 2 ^ 200 := by decide
    omega)
  obtain ⟨r1, u1, q1, q2, q3, q4⟩ := take_ok k (n := most + 1) hu (by omega) (by omega) l1
  obtain ⟨r2, u2, p1, p2, p3, p4⟩ := take_ok k (n := 3) q3 (by omega) (by decide) (by decide +kernel)
  have p3' : UrnOk (m + 2) u2 := p3.up (by omega)
  have ml : ∀ (b : Bool), bop .mul (.int r1) (.int (if b then 1 else 0)) = some (.int (r1 * (if b then 1 else 0))) := fun b => bop_mul (by cases b <;> simp [small])
  have hK := kCall_2 T (callF T (k + 1)) (f := 6) (F := f6) rfl rfl
  have d1 := draw q4
  have d2 := draw p4
  by_cases c : 0 < r2 ∧ 0 < r1
  · refine ⟨[(x, r1)], u2, .fz (.int r1), p3', .inr ⟨r1, rfl, by omega, by omega⟩, ?_⟩
    have ml' : bop .mul (.int r1) (.int 1) = some (.int r1) := by rw [bop_mul (by simp [small]), Int.mul_one]
    have ad : bop .add (.lst (acc.map pD)) (.lst [.tup [st x, .int r1]]) = some (.lst ((acc ++ [(x, r1)]).map pD)) := by
      rw [add_lst (by rw [List.length_map]; simp; omega), List.map_append]; rfl
    simp -implicitDefEqProofs only [List.replicate, List.cons_append, List.nil_append, evSs_c, evSs_n, thenS_next, thenS_ret, thenS_brk, thenS_cont, thenS_ex, retF_ret, retF_ex, retF_next, R.bind_ok, R.bind_ex, R.of_some, getE_z, getE_s, getE_n, ev_c, ev_v, kVar_fz, kVar_ow, ev_g, kPure_some, kBool_some, ev_tup, ev_lst, ev_bin, kBin_eq, kBin2_eq, ev_cmp, kCmp_eq, kCmp2_eq, ev_chain, kChain_eq, kChain2_eq, kChain3_t, kChain3_f, ev_isN, ev_notN, ev_not, kNot_eq, ev_and, kAnd_bl, kAnd2_t, kAnd2_f, ev_or, kOr_bl, kOr_lst, kOr2_t, kOr2_f, ev_ife, kIfe_eq, kIfe2_t, kIfe2_f, ev_sub, kSub_eq, kSub2_int, ev_slc, kSlc_eq, kSlc2_eq, kSlc3_eq, ev_calln, ev_bi, kBi_1, kBi_2, ev_isi, kIsi_eq, ev_isx, kIsx_eq, ev_me, kMe2_1, es_n, es_c, kEs_eq, st_asg, st_ret, st_if, kIf_eq, kIf2_t, kIf2_f, st_for, st_unp, st_expr, kExpr_eq, st_rais, st_pass, st_try, kTry_ok, st_set, st_fz, kFz_fz, kFz_no, kOwn_lst, kAsg_eq, kRet_eq, kSto_ok, kIsN_eq, kSeq_ok, Nat.reduceLeDiff, beq_tf, beq_ft, beq_tt, beq_ff, isNon_int, isNon_str, isNon_lst, isNon_tup, isNon_exc, isNon_bl, isNon_non, isOwn_exc, kUnp_2, kUnp_3, res_int, res_bl, res_str, res_lst, res_tup, res_non, nst_c, nst_v, nst_ov, nst_g, nst_tup, nst_lst, nst_bin, nst_neg, nst_cmp, nst_chain, nst_isN, nst_notN, nst_not, nst_and, nst_or, nst_ife, nst_sub, nst_slc, nst_rev, nst_call, nst_call1, nst_bi, nst_isi, nst_isx, nst_me, nst_pop, nst_popAt, nst_comp, nst_bad, isOwn_int, isOwn_bl, isOwn_str, isOwn_non, isOwn_tup, isOwn_lst, isOwn_own, decide_true, decide_false, truth_bl, if_true, if_false, Bool.false_eq_true, lockOf_zo, lockOf_zf, lockOf_zn, lockOf_s, lockOf_n, List.length_cons, List.length_nil, List.set_cons_zero, List.set_cons_succ, Nat.reduceAdd, Nat.reduceLT, ownsX_z, ownsX_s, ownsL_z, ownsL_s, Bool.not_true, Bool.not_false, outsE, bop_add, bop_sub, cop_gt, cop_ge, cop_lt, cop_le, bi_int, bi_intb, bi_abs, bi_lenL, bi_lenT, List.any_cons, List.any_nil, Bool.or_false, Bool.false_or, lb, hK, d1, d2, c.1, c.2, ml', mul1, ad]
  · refine ⟨[], u2, .fz (.int 0), p3', .inl rfl, ?_⟩
    have ad : bop .add (.lst (acc.map pD)) (.lst []) = some (.lst (acc.map pD)) := by
      rw [add_lst (by rw [List.length_map]; simp; omega), List.append_nil]
    have c0 : ¬ ((0 : Int) < 0) := by decide
    rw [List.append_nil]
    by_cases c2 : 0 < r2
    · have hr1 : r1 = 0 := by omega
      subst hr1
      have ml' : bop .mul (.int 0) (.int 1) = some (.int 0) := rfl
      simp -implicitDefEqProofs only [List.replicate, List.cons_append, List.nil_append, evSs_c, evSs_n, thenS_next, thenS_ret, thenS_brk, thenS_cont, thenS_ex, retF_ret, retF_ex, retF_next, R.bind_ok, R.bind_ex, R.of_some, getE_z, getE_s, getE_n, ev_c, ev_v, kVar_fz, kVar_ow, ev_g, kPure_some, kBool_some, ev_tup, ev_lst, ev_bin, kBin_eq, kBin2_eq, ev_cmp, kCmp_eq, kCmp2_eq, ev_chain, kChain_eq, kChain2_eq, kChain3_t, kChain3_f, ev_isN, ev_notN, ev_not, kNot_eq, ev_and, kAnd_bl, kAnd2_t, kAnd2_f, ev_or, kOr_bl, kOr_lst, kOr2_t, kOr2_f, ev_ife, kIfe_eq, kIfe2_t, kIfe2_f, ev_sub, kSub_eq, kSub2_int, ev_slc, kSlc_eq, kSlc2_eq, kSlc3_eq, ev_calln, ev_bi, kBi_1, kBi_2, ev_isi, kIsi_eq, ev_isx, kIsx_eq, ev_me, kMe2_1, es_n, es_c, kEs_eq, st_asg, st_ret, st_if, kIf_eq, kIf2_t, kIf2_f, st_for, st_unp, st_expr, kExpr_eq, st_rais, st_pass, st_try, kTry_ok, st_set, st_fz, kFz_fz, kFz_no, kOwn_lst, kAsg_eq, kRet_eq, kSto_ok, kIsN_eq, kSeq_ok, Nat.reduceLeDiff, beq_tf, beq_ft, beq_tt, beq_ff, isNon_int, isNon_str, isNon_lst, isNon_tup, isNon_exc, isNon_bl, isNon_non, isOwn_exc, kUnp_2, kUnp_3, res_int, res_bl, res_str, res_lst, res_tup, res_non, nst_c, nst_v, nst_ov, nst_g, nst_tup, nst_lst, nst_bin, nst_neg, nst_cmp, nst_chain, nst_isN, nst_notN, nst_not, nst_and, nst_or, nst_ife, nst_sub, nst_slc, nst_rev, nst_call, nst_call1, nst_bi, nst_isi, nst_isx, nst_me, nst_pop, nst_popAt, nst_comp, nst_bad, isOwn_int, isOwn_bl, isOwn_str, isOwn_non, isOwn_tup, isOwn_lst, isOwn_own, decide_true, decide_false, truth_bl, if_true, if_false, Bool.false_eq_true, lockOf_zo, lockOf_zf, lockOf_zn, lockOf_s, lockOf_n, List.length_cons, List.length_nil, List.set_cons_zero, List.set_cons_succ, Nat.reduceAdd, Nat.reduceLT, ownsX_z, ownsX_s, ownsL_z, ownsL_s, Bool.not_true, Bool.not_false, outsE, bop_add, bop_sub, cop_gt, cop_ge, cop_lt, cop_le, bi_int, bi_intb, bi_abs, bi_lenL, bi_lenT, List.any_cons, List.any_nil, Bool.or_false, Bool.false_or, lb, hK, d1, d2, c2, ml', mul0, ad, c0]
    · have ml' : bop .mul (.int r1) (.int 0) = some (.int 0) := by rw [bop_mul (by simp [small]), Int.mul_zero]
      simp -implicitDefEqProofs only [List.replicate, List.cons_append, List.nil_append, evSs_c, evSs_n, thenS_next, thenS_ret, thenS_brk, thenS_cont, thenS_ex, retF_ret, retF_ex, retF_next, R.bind_ok, R.bind_ex, R.of_some, getE_z, getE_s, getE_n, ev_c, ev_v, kVar_fz, kVar_ow, ev_g, kPure_some, kBool_some, ev_tup, ev_lst, ev_bin, kBin_eq, kBin2_eq, ev_cmp, kCmp_eq, kCmp2_eq, ev_chain, kChain_eq, kChain2_eq, kChain3_t, kChain3_f, ev_isN, ev_notN, ev_not, kNot_eq, ev_and, kAnd_bl, kAnd2_t, kAnd2_f, ev_or, kOr_bl, kOr_lst, kOr2_t, kOr2_f, ev_ife, kIfe_eq, kIfe2_t, kIfe2_f, ev_sub, kSub_eq, kSub2_int, ev_slc, kSlc_eq, kSlc2_eq, kSlc3_eq, ev_calln, ev_bi, kBi_1, kBi_2, ev_isi, kIsi_eq, ev_isx, kIsx_eq, ev_me, kMe2_1, es_n, es_c, kEs_eq, st_asg, st_ret, st_if, kIf_eq, kIf2_t, kIf2_f, st_for, st_unp, st_expr, kExpr_eq, st_rais, st_pass, st_try, kTry_ok, st_set, st_fz, kFz_fz, kFz_no, kOwn_lst, kAsg_eq, kRet_eq, kSto_ok, kIsN_eq, kSeq_ok, Nat.reduceLeDiff, beq_tf, beq_ft, beq_tt, beq_ff, isNon_int, isNon_str, isNon_lst, isNon_tup, isNon_exc, isNon_bl, isNon_non, isOwn_exc, kUnp_2, kUnp_3, res_int, res_bl, res_str, res_lst, res_tup, res_non, nst_c, nst_v, nst_ov, nst_g, nst_tup, nst_lst, nst_bin, nst_neg, nst_cmp, nst_chain, nst_isN, nst_notN, nst_not, nst_and, nst_or, nst_ife, nst_sub, nst_slc, nst_rev, nst_call, nst_call1, nst_bi, nst_isi, nst_isx, nst_me, nst_pop, nst_popAt, nst_comp, nst_bad, isOwn_int, isOwn_bl, isOwn_str, isOwn_non, isOwn_tup, isOwn_lst, isOwn_own, decide_true, decide_false, truth_bl, if_true, if_false, Bool.false_eq_true, lockOf_zo, lockOf_zf, lockOf_zn, lockOf_s, lockOf_n, List.length_cons, List.length_nil, List.set_cons_zero, List.set_cons_succ, Nat.reduceAdd, Nat.reduceLT, ownsX_z, ownsX_s, ownsL_z, ownsL_s, Bool.not_true, Bool.not_false, outsE, bop_add, bop_sub, cop_gt, cop_ge, cop_lt, cop_le, bi_int, bi_intb, bi_abs, bi_lenL, bi_lenT, List.any_cons, List.any_nil, Bool.or_false, Bool.false_or, lb, hK, d1, d2, c2, ml', mul0, ad, c0]
def stepL (k : Nat) (u0 kd : D) (most : Int) : D → Env → R (Fl × Env) := fun x env1 => (R.of (tgE (lkL u0 kd most) (.n 4) x env1)).bind fun env2 => evSs T (callF T k) (lkL u0 kd most) lb env2
theorem lot_loop (k : Nat) {u0 kd : D} {most : Int} (h1 : 1 ≤ most) (h2 : most < 10 ^ 31 - 1) : ∀ (xs : List (List Nat)) (acc : List Pr) (u : D) (m : Int) (e4 e5 : Ent), UrnOk m u → m + 2 * xs.length < 999990 → acc.length + xs.length ≤ 100 →
    ∃ ps u' e4' e5', UrnOk (m + 2 * xs.length) u' ∧ (ps.map (·.1)).Sublist xs ∧ (∀ p ∈ ps, 1 ≤ p.2 ∧ p.2 ≤ most) ∧ loopS (stepL (k + 1) u0 kd most) (xs.map st) (evL u kd most acc e4 e5) = .ok (.next, evL u' kd most (acc ++ ps) e4' e5')
  | [], acc, u, m, e4, e5, hu, _, _ => ⟨[], u, e4, e5, hu.up (by simp), .slnil, by simp, by rw [List.append_nil]; rfl⟩
  | x :: xs, acc, u, m, e4, e5, hu, hm, hl => by
    simp only [List.length_cons] at hm hl
    obtain ⟨p1, u1, e5', hu1, hp1, hs⟩ := lot_step k (u0 := u0) (kd := kd) (acc := acc) (x := x) (e5 := e5) hu (by omega) h1 h2 (by omega)
    have hp1l : p1.length ≤ 1 := by rcases hp1 with rfl | ⟨n, rfl, _⟩ <;> simp
    obtain ⟨ps, u', e4', e5'', hu', hsub, hb, hlp⟩ := lot_loop k h1 h2 xs (acc ++ p1) u1 (m + 2) (.fz (st x)) e5' hu1 (by omega) (by simp; omega)
    refine ⟨p1 ++ ps, u', e4', e5'', hu'.up (by simp only [List.length_cons]; omega), ?_, ?_, ?_⟩
    · rcases hp1 with rfl | ⟨n, rfl, _⟩
      · exact .cons _ hsub
      · exact .cons₂ _ hsub
    · intro p hp
      rcases List.mem_append.mp hp with hp | hp
      · rcases hp1 with rfl | ⟨n, rfl, q⟩
        · cases hp
        · rcases List.mem_singleton.mp hp with rfl
          exact q
      · exact hb p hp
    · have hst : stepL (k + 1) u0 kd most (st x) (evL u kd most acc e4 e5) = evSs T (callF T (k + 1)) (lkL u0 kd most) lb (evL u kd most acc (.fz (st x)) e5) := rfl
      rw [List.map_cons, loopS, hst, hs]
      simp only [R.bind_ok]
      rw [hlp, List.append_assoc]
theorem dInts_no (x : List Nat) (xs : List (List Nat)) : dInts ((x :: xs).map st) = none := rfl
theorem sorted_up {xs : List (List Nat)} (hne : xs ≠ []) (hl : xs.length < 64) (h : rise xs = true) : biD .sorted [.lst (xs.map st)] = some (.lst (xs.map st)) := by
  obtain ⟨x, r, rfl⟩ : ∃ x r, xs = x :: r := by cases xs with | nil => exact absurd rfl hne | cons x r => exact ⟨x, r, rfl⟩
  show (srt ((x :: r).map st)).map D.lst = _
  unfold srt
  rw [if_pos (by simpa using hl), dInts_no, dStrs_map]
  have so : ((x :: r).map S).Pairwise (fun a b => leS a b = true) := List.pairwise_map.mpr ((rise_pw h).imp fun {a b} (hab : a < b) => by
    rw [leS_S]
    have : ¬ b < a := fun q => lt_irr _ (List.lt_trans hab q)
    simp [this])
  have := isort_uniq leS_tot leS_tr leS_anti (List.Perm.refl _) so
  show some (D.lst ((isort leS ((x :: r).map S)).map .str)) = _
  rw [← this, ← map_st]
theorem lot_ok (k : Nat) {u : D} {m most : Int} {xs : List (List Nat)} (hu : UrnOk m u) (hm : m < 900000) (h1 : 1 ≤ most) (h2 : most < 10 ^ 31 - 1) (hne : xs ≠ []) (hl : xs.length ≤ 6) (hr : rise xs = true) (hk : ∀ x ∈ xs, kindB x = true ∧ x.length ≤ 10) :
    ∃ ps u' o, UrnOk (m + 12) u' ∧ LotOk ps ∧ callF T (k + 2) 11 [.ow u, .fz (.lst (xs.map st)), .fz (.int most)] = .ok (.tup (ps.map pD), .ow u' :: o) := by
  obtain ⟨ps, u', e4, e5, hu', hsub, hb, hlp⟩ := lot_loop k (u0 := u) (kd := .lst (xs.map st)) h1 h2 xs [] u m .no .no hu (by omega) (by simp; omega)
  rw [List.nil_append] at hlp
  have hm1 : ∀ p ∈ ps, p.1 ∈ xs := fun p hp => hsub.subset (List.mem_map.mpr ⟨p, hp, rfl⟩)
  refine ⟨ps, u', [.no, .no], hu'.up (by omega), ⟨fun p hp => ⟨(hk _ (hm1 p hp)).1, (hk _ (hm1 p hp)).2, (hb p hp).1, by have := (hb p hp).2; omega⟩, pw_rise ((rise_pw hr).sublist hsub), ?_⟩, ?_⟩
  · have := hsub.length_le
    rw [List.length_map] at this
    omega
  · rw [callF_eq (k + 1) (F := f11) rfl rfl rfl]
    show retF false _ (evSs T (callF T (k + 1)) _ b11 _) = _
    rw [b11_eq]
    have so := sorted_up hne (by omega) hr
    have kf : ∀ env, kFor T (callF T (k + 1)) (lkL u (.lst (xs.map st)) most) (.n 4) .seq lb ([.lst (xs.map st)], env) = loopS (stepL (k + 1) u (.lst (xs.map st)) most) (xs.map st) env := fun env => kFor_eq T (callF T (k + 1)) (lkL u (.lst (xs.map st)) most) (.n 4) (k := .seq) lb (ds := [.lst (xs.map st)]) (xs := xs.map st) env rfl rfl
    have ht : biD .tuple [.lst (ps.map pD)] = some (.tup (ps.map pD)) := rfl
    have hlp' : loopS (stepL (k + 1) u (.lst (xs.map st)) most) (xs.map st) [.ow u, .fz (.lst (xs.map st)), .fz (.int most), .fz (.lst []), .no, .no] = _ := hlp
    simp -implicitDefEqProofs only [List.replicate, List.cons_append, List.nil_append, evSs_c, evSs_n, thenS_next, thenS_ret, thenS_brk, thenS_cont, thenS_ex, retF_ret, retF_ex, retF_next, R.bind_ok, R.bind_ex, R.of_some, getE_z, getE_s, getE_n, ev_c, ev_v, kVar_fz, kVar_ow, ev_g, kPure_some, kBool_some, ev_tup, ev_lst, ev_bin, kBin_eq, kBin2_eq, ev_cmp, kCmp_eq, kCmp2_eq, ev_chain, kChain_eq, kChain2_eq, kChain3_t, kChain3_f, ev_isN, ev_notN, ev_not, kNot_eq, ev_and, kAnd_bl, kAnd2_t, kAnd2_f, ev_or, kOr_bl, kOr_lst, kOr2_t, kOr2_f, ev_ife, kIfe_eq, kIfe2_t, kIfe2_f, ev_sub, kSub_eq, kSub2_int, ev_slc, kSlc_eq, kSlc2_eq, kSlc3_eq, ev_calln, ev_bi, kBi_1, kBi_2, ev_isi, kIsi_eq, ev_isx, kIsx_eq, ev_me, kMe2_1, es_n, es_c, kEs_eq, st_asg, st_ret, st_if, kIf_eq, kIf2_t, kIf2_f, st_for, st_unp, st_expr, kExpr_eq, st_rais, st_pass, st_try, kTry_ok, st_set, st_fz, kFz_fz, kFz_no, kOwn_lst, kAsg_eq, kRet_eq, kSto_ok, kIsN_eq, kSeq_ok, Nat.reduceLeDiff, beq_tf, beq_ft, beq_tt, beq_ff, isNon_int, isNon_str, isNon_lst, isNon_tup, isNon_exc, isNon_bl, isNon_non, isOwn_exc, kUnp_2, kUnp_3, res_int, res_bl, res_str, res_lst, res_tup, res_non, nst_c, nst_v, nst_ov, nst_g, nst_tup, nst_lst, nst_bin, nst_neg, nst_cmp, nst_chain, nst_isN, nst_notN, nst_not, nst_and, nst_or, nst_ife, nst_sub, nst_slc, nst_rev, nst_call, nst_call1, nst_bi, nst_isi, nst_isx, nst_me, nst_pop, nst_popAt, nst_comp, nst_bad, isOwn_int, isOwn_bl, isOwn_str, isOwn_non, isOwn_tup, isOwn_lst, isOwn_own, decide_true, decide_false, truth_bl, if_true, if_false, Bool.false_eq_true, lockOf_zo, lockOf_zf, lockOf_zn, lockOf_s, lockOf_n, List.length_cons, List.length_nil, List.set_cons_zero, List.set_cons_succ, Nat.reduceAdd, Nat.reduceLT, ownsX_z, ownsX_s, ownsL_z, ownsL_s, Bool.not_true, Bool.not_false, outsE, bop_add, bop_sub, cop_gt, cop_ge, cop_lt, cop_le, bi_int, bi_intb, bi_abs, bi_lenL, bi_lenT, List.any_cons, List.any_nil, Bool.or_false, Bool.false_or, f11, so, kf, hlp', ht]
end K90

set_option linter.all false
set_option Elab.async false
set_option maxRecDepth 100000
/-! P90m: one turn of the law (own work; printed from P90m.tpl by exp.py). -/
namespace K90
open IV

def POOL : List (List Nat) := [[97], [97, 98], [98], [99], [104, 111, 115, 116], [122]]
theorem pool_D : ([.str "a", .str "ab", .str "b", .str "c", .str "host", .str "z"] : List D) = POOL.map st := rfl
theorem bnd_non (d : D) : bndE (.c .non) d = some none := rfl
theorem bnd_bin (o : BOp) (a b : IE) (i : Int) : bndE (.bin o a b) (.int i) = some (some i) := rfl
theorem bnd_v (n : Nat) (i : Int) : bndE (.v n) (.int i) = some (some i) := rfl
theorem slc_pool {r : Int} (h0 : 0 ≤ r) (h1 : r < 6) : ∃ xs, xs ≠ [] ∧ xs.length ≤ 6 ∧ rise xs = true ∧ (∀ x ∈ xs, kindB x = true ∧ x.length ≤ 10) ∧ slcD (.lst (POOL.map st)) none (some (1 + r)) = some (.lst (xs.map st)) := by
  have c : r = 0 ∨ r = 1 ∨ r = 2 ∨ r = 3 ∨ r = 4 ∨ r = 5 := by omega
  rcases c with rfl | rfl | rfl | rfl | rfl | rfl
  · exact ⟨POOL.take 1, by decide, by decide, by decide, by decide, rfl⟩
  · exact ⟨POOL.take 2, by decide, by decide, by decide, by decide, rfl⟩
  · exact ⟨POOL.take 3, by decide, by decide, by decide, by decide, rfl⟩
  · exact ⟨POOL.take 4, by decide, by decide, by decide, by decide, rfl⟩
  · exact ⟨POOL.take 5, by decide, by decide, by decide, by decide, rfl⟩
  · exact ⟨POOL.take 6, by decide, by decide, by decide, by decide, rfl⟩
theorem ten30 : bop .pow (.int 10) (.int 30) = some (.int (10 ^ 30)) := rfl
theorem ne_tup {ps : List Pr} (h : LotOk ps) : cop .ne (.tup (ps.map pD)) (.tup []) = some (!decide (ps = [])) := by
  have hp : ∀ ps : List Pr, (∀ p ∈ ps, PrOk p) → plainDs 59 (ps.map pD) = true := fun ps => by
    induction ps with
    | nil => exact fun _ => rfl
    | cons p ps ih =>
      intro hh
      rw [List.map_cons]
      show ((PySem.PyData.strOk ⟨⟨p.1⟩⟩ && (true && true)) && plainDs 59 (ps.map pD)) = true
      rw [ih fun q hq => hh q (List.mem_cons_of_mem _ hq), let_ok (hh p List.mem_cons_self).kd]
      rfl
  show (if _ || (plainDs 59 (ps.map pD) && plainDs 59 []) then some (!deqs (ps.map pD) []) else none) = _
  rw [hp ps h.each, if_pos (by simp [plainDs])]
  cases ps <;> rfl
theorem sd_pairs : ∀ ps : List Pr, sds 1 (ps.map pD) = true
  | [] => rfl
  | p :: ps => by
    rw [List.map_cons]
    show (sd 1 (pD p) && sds 1 (ps.map pD)) = true
    rw [sd_pairs ps]
    rfl
theorem sd_told {ps : List Pr} (h : LotOk ps) (l : List Nat) : sd 3 (.lst [st l, .tup (ps.map pD)]) = true := by
  show (decide (2 ≤ 1000) && (sd 2 (st l) && (sd 2 (.tup (ps.map pD)) && true))) = true
  have : sd 2 (.tup (ps.map pD)) = true := by
    show (decide ((ps.map pD).length ≤ 1000) && sds 1 (ps.map pD)) = true
    rw [sd_pairs, List.length_map, decide_eq_true (by have := h.few; omega)]
    rfl
  rw [this]
  rfl
theorem sd_heard {l : List Nat} (hl : l.length ≤ 300) : sd 2 (heardD l) = true := by
  unfold heardD
  cases h : crowdIn l with
  | none => rfl
  | some ds =>
    unfold crowdIn at h
    split at h
    · cases h; rfl
    · split at h
      · rename_i hc
        rw [Bool.and_eq_true] at hc
        cases h
        have hp := parts_len l
        show (decide (((parts l).map pairIn).length ≤ 1000) && sds 1 ((parts l).map pairIn)) = true
        rw [List.length_map, decide_eq_true (by omega), Bool.true_and]
        have ho : ∀ p ∈ parts l, okP p = true := List.all_eq_true.mp hc.1
        have : ∀ qs : List (List Nat), (∀ p ∈ qs, okP p = true) → sds 1 (qs.map pairIn) = true := fun qs => by
          induction qs with
          | nil => exact fun _ => rfl
          | cons q qs ih =>
            intro hh
            rw [List.map_cons]
            show (sd 1 (pairIn q) && sds 1 (qs.map pairIn)) = true
            rw [ih fun p hp => hh p (List.mem_cons_of_mem _ hp)]
            obtain ⟨n, e, _⟩ := okP_tup (hh q List.mem_cons_self)
            rw [e]
            rfl
        exact this _ ho
      · cases h
theorem heard_no (l : List Nat) : isOwn (heardD l) = false := by
  unfold heardD
  cases crowdIn l <;> rfl
theorem slc_lo {l : List Nat} {i : Int} (h0 : 0 ≤ i) (h1 : i ≤ l.length) (hl : l.length ≤ 1000) : slcD (st l) none (some i) = some (st (l.take i.toNat)) := by
  show (if l.length ≤ line then some (D.str (L2.cutS ⟨⟨l⟩⟩ none (some i))) else none) = _
  rw [if_pos (Nat.le_trans hl (by decide))]
  have e : HT.sIx l.length l.length (some i) = i.toNat := by
    show (if i < 0 then (i + (l.length : Int)).toNat else min i.toNat l.length) = _
    rw [if_neg (by omega)]
    omega
  show some (D.str ⟨((l.drop 0).take (HT.sIx l.length l.length (some i) - 0)).toArray⟩) = _
  rw [e]
  rfl
theorem slc_hi {l : List Nat} {i : Int} (h0 : 0 ≤ i) (hl : l.length ≤ 1000) : slcD (st l) (some i) none = some (st (l.drop i.toNat)) := by
  show (if l.length ≤ line then some (D.str (L2.cutS ⟨⟨l⟩⟩ (some i) none)) else none) = _
  rw [if_pos (Nat.le_trans hl (by decide))]
  have e : HT.sIx l.length 0 (some i) = min i.toNat l.length := by
    show (if i < 0 then (i + (l.length : Int)).toNat else min i.toNat l.length) = _
    rw [if_neg (by omega)]
  show some (D.str ⟨((l.drop (HT.sIx l.length 0 (some i))).take (l.length - HT.sIx l.length 0 (some i))).toArray⟩) = _
  rw [e]
  congr 3
  rw [List.take_of_length_le (by simp)]
  by_cases h : i.toNat ≤ l.length
  · rw [Nat.min_eq_left h]
  · rw [Nat.min_eq_right (by omega), List.drop_length, List.drop_of_length_le (by omega)]
/-! ### one turn -/
def rbody : List IS := [.asg 2 (.slc (.lst [(.c (.str "a")), (.c (.str "ab")), (.c (.str "b")), (.c (.str "c")), (.c (.str "host")), (.c (.str "z"))]) (.c .non) (.bin .add (.c (.int 1)) (.call 6 [(.v 0), (.c (.int 6))] []))), .asg 3 (.call 11 [(.v 0), (.v 2), (.call 8 [(.v 0), (.lst [(.c (.int 3)), (.c (.int 40)), (.bin .pow (.c (.int 10)) (.c (.int 30)))])] [])] []), .asg 4 (.ife (.cmp .ne (.v 3) (.tup [])) (.me .join (.c (.str ", ")) [(.comp [8, 9] (.t [8, 9]) .seq [(.v 3)] [] true (.bin .add (.bin .add (.v 8) (.c (.str " "))) (.bi .str [(.v 9)])))]) (.c (.str "-"))), .ifs (.not (.call 10 [(.lst [(.call 2 [(.call 9 [(.v 3)] [])] []), (.call 12 [(.v 4)] [])]), (.lst [(.v 4), (.v 3)])] [])) [.ret (.c (.bl false))] [], .par [6, 7] [false, false] [(.call 6 [(.v 0), (.bin .add (.bi .len [(.v 4)]) (.c (.int 1)))] []), (.call 8 [(.v 0), (.lst [(.c (.str "a")), (.c (.str " ")), (.c (.str ", ")), (.c (.str "0")), (.c (.str "1")), (.c (.str "-")), (.c (.str "")), (.c (.str "b 1, "))])] [])], .asg 5 (.bin .add (.bin .add (.slc (.v 4) (.c .non) (.v 6)) (.v 7)) (.slc (.v 4) (.bin .add (.v 6) (.call 6 [(.v 0), (.c (.int 2))] [])) (.c .non))), .ifs (.not (.call 10 [(.call 12 [(.v 5)] []), (.call 14 [(.v 5)] [])] [])) [.ret (.c (.bl false))] []]
theorem b15_eq : b15 = [.ifs (.not (.call 13 [] [])) [.ret (.c (.bl false))] [], .for_ (.n 1) .rng [(.c (.int 12))] rbody, .ret (.c (.bl true))] := rfl
abbrev evR (u : D) (e1 e2 e3 e4 e5 e6 e7 : Ent) : Env := [.ow u, e1, e2, e3, e4, e5, e6, e7, .no, .no]
abbrev lkR (u : D) : Lk := lockOf [.ow u]
theorem comp_say {C : Nat → Env → R (D × Env)} {lk : Lk} {u : D} {e1 e2 e4 e5 e6 e7 : Ent} {ps : List Pr} (h : LotOk ps) (l8 : lk 8 = false) (l9 : lk 9 = false) : evE T C lk (.comp [8, 9] (.t [8, 9]) .seq [(.v 3)] [] true (.bin .add (.bin .add (.v 8) (.c (.str " "))) (.bi .str [(.v 9)]))) (evR u e1 e2 (.fz (.tup (ps.map pD))) e4 e5 e6 e7) = .ok (.lst ((ps.map one).map st), evR u e1 e2 (.fz (.tup (ps.map pD))) e4 e5 e6 e7) := by
  rw [ev_comp2 (ds := [.tup (ps.map pD)]) (xs := ps.map pD) (t := fun _ => true) (g := fun d => match d with
    | .tup [.str x, .int n] => st (one (x.cps.toList, n))
    | _ => .non) ?_ rfl rfl (show 8 < 10 by decide) (show 9 < 10 by decide) (by decide) l8 l9 rfl ?_ ?_]
  · rw [filter_tt, List.map_map, List.map_map]; rfl
  · simp -implicitDefEqProofs only [List.replicate, List.cons_append, List.nil_append, evSs_c, evSs_n, thenS_next, thenS_ret, thenS_brk, thenS_cont, thenS_ex, retF_ret, retF_ex, retF_next, R.bind_ok, R.bind_ex, R.of_some, getE_z, getE_s, getE_n, ev_c, ev_v, kVar_fz, kVar_ow, ev_g, kPure_some, kBool_some, ev_tup, ev_lst, ev_bin, kBin_eq, kBin2_eq, ev_cmp, kCmp_eq, kCmp2_eq, ev_chain, kChain_eq, kChain2_eq, kChain3_t, kChain3_f, ev_isN, ev_notN, ev_not, kNot_eq, ev_and, kAnd_bl, kAnd2_t, kAnd2_f, ev_or, kOr_bl, kOr_lst, kOr2_t, kOr2_f, ev_ife, kIfe_eq, kIfe2_t, kIfe2_f, ev_sub, kSub_eq, kSub2_int, ev_slc, kSlc_eq, kSlc2_eq, kSlc3_eq, ev_calln, ev_bi, kBi_1, kBi_2, ev_isi, kIsi_eq, ev_isx, kIsx_eq, ev_me, kMe2_1, es_n, es_c, kEs_eq, st_asg, st_ret, st_if, kIf_eq, kIf2_t, kIf2_f, st_for, st_unp, st_expr, kExpr_eq, st_rais, st_pass, st_try, kTry_ok, st_set, st_fz, kFz_fz, kFz_no, kOwn_lst, kAsg_eq, kRet_eq, kSto_ok, kIsN_eq, kSeq_ok, Nat.reduceLeDiff, beq_tf, beq_ft, beq_tt, beq_ff, isNon_int, isNon_str, isNon_lst, isNon_tup, isNon_exc, isNon_bl, isNon_non, isOwn_exc, kUnp_2, kUnp_3, res_int, res_bl, res_str, res_lst, res_tup, res_non, nst_c, nst_v, nst_ov, nst_g, nst_tup, nst_lst, nst_bin, nst_neg, nst_cmp, nst_chain, nst_isN, nst_notN, nst_not, nst_and, nst_or, nst_ife, nst_sub, nst_slc, nst_rev, nst_call, nst_call1, nst_bi, nst_isi, nst_isx, nst_me, nst_pop, nst_popAt, nst_comp, nst_bad, isOwn_int, isOwn_bl, isOwn_str, isOwn_non, isOwn_tup, isOwn_lst, isOwn_own, decide_true, decide_false, truth_bl, if_true, if_false, Bool.false_eq_true, lockOf_zo, lockOf_zf, lockOf_zn, lockOf_s, lockOf_n, List.length_cons, List.length_nil, List.set_cons_zero, List.set_cons_succ, Nat.reduceAdd, Nat.reduceLT, ownsX_z, ownsX_s, ownsL_z, ownsL_s, Bool.not_true, Bool.not_false, outsE, bop_add, bop_sub, cop_gt, cop_ge, cop_lt, cop_le, bi_int, bi_intb, bi_abs, bi_lenL, bi_lenT, List.any_cons, List.any_nil, Bool.or_false, Bool.false_or]
  · intro d hd
    obtain ⟨p, hp, rfl⟩ := List.mem_map.mp hd
    have hk := h.each p hp
    have h1 := hk.len
    have h2 := num_len (n := p.2) (by have := hk.lo; omega) hk.hi
    refine ⟨st p.1, .int p.2, .inl rfl, rfl, rfl, evTs_nil .., fun _ => ⟨?_, rfl⟩⟩
    have a1 : bop .add (st p.1) (st [32]) = some (st (p.1 ++ [32])) := add_st (by simp; omega)
    have a2 : bop .add (st (p.1 ++ [32])) (st (num p.2)) = some (st (p.1 ++ [32] ++ num p.2)) := add_st (by simp; omega)
    have a3 := bi_str (n := p.2) (by have := hk.lo; omega) hk.hi
    simp -implicitDefEqProofs only [List.replicate, List.cons_append, List.nil_append, evSs_c, evSs_n, thenS_next, thenS_ret, thenS_brk, thenS_cont, thenS_ex, retF_ret, retF_ex, retF_next, R.bind_ok, R.bind_ex, R.of_some, getE_z, getE_s, getE_n, ev_c, ev_v, kVar_fz, kVar_ow, ev_g, kPure_some, kBool_some, ev_tup, ev_lst, ev_bin, kBin_eq, kBin2_eq, ev_cmp, kCmp_eq, kCmp2_eq, ev_chain, kChain_eq, kChain2_eq, kChain3_t, kChain3_f, ev_isN, ev_notN, ev_not, kNot_eq, ev_and, kAnd_bl, kAnd2_t, kAnd2_f, ev_or, kOr_bl, kOr_lst, kOr2_t, kOr2_f, ev_ife, kIfe_eq, kIfe2_t, kIfe2_f, ev_sub, kSub_eq, kSub2_int, ev_slc, kSlc_eq, kSlc2_eq, kSlc3_eq, ev_calln, ev_bi, kBi_1, kBi_2, ev_isi, kIsi_eq, ev_isx, kIsx_eq, ev_me, kMe2_1, es_n, es_c, kEs_eq, st_asg, st_ret, st_if, kIf_eq, kIf2_t, kIf2_f, st_for, st_unp, st_expr, kExpr_eq, st_rais, st_pass, st_try, kTry_ok, st_set, st_fz, kFz_fz, kFz_no, kOwn_lst, kAsg_eq, kRet_eq, kSto_ok, kIsN_eq, kSeq_ok, Nat.reduceLeDiff, beq_tf, beq_ft, beq_tt, beq_ff, isNon_int, isNon_str, isNon_lst, isNon_tup, isNon_exc, isNon_bl, isNon_non, isOwn_exc, kUnp_2, kUnp_3, res_int, res_bl, res_str, res_lst, res_tup, res_non, nst_c, nst_v, nst_ov, nst_g, nst_tup, nst_lst, nst_bin, nst_neg, nst_cmp, nst_chain, nst_isN, nst_notN, nst_not, nst_and, nst_or, nst_ife, nst_sub, nst_slc, nst_rev, nst_call, nst_call1, nst_bi, nst_isi, nst_isx, nst_me, nst_pop, nst_popAt, nst_comp, nst_bad, isOwn_int, isOwn_bl, isOwn_str, isOwn_non, isOwn_tup, isOwn_lst, isOwn_own, decide_true, decide_false, truth_bl, if_true, if_false, Bool.false_eq_true, lockOf_zo, lockOf_zf, lockOf_zn, lockOf_s, lockOf_n, List.length_cons, List.length_nil, List.set_cons_zero, List.set_cons_succ, Nat.reduceAdd, Nat.reduceLT, ownsX_z, ownsX_s, ownsL_z, ownsL_s, Bool.not_true, Bool.not_false, outsE, bop_add, bop_sub, cop_gt, cop_ge, cop_lt, cop_le, bi_int, bi_intb, bi_abs, bi_lenL, bi_lenT, List.any_cons, List.any_nil, Bool.or_false, Bool.false_or, s_bl, a1, a2, a3]
    rfl
  · rw [List.length_map]; exact Nat.le_trans h.few (by decide)
theorem say_ev {C : Nat → Env → R (D × Env)} {lk : Lk} {u : D} {e1 e2 e4 e5 e6 e7 : Ent} {ps : List Pr} (h : LotOk ps) (l8 : lk 8 = false) (l9 : lk 9 = false) : evE T C lk (.ife (.cmp .ne (.v 3) (.tup [])) (.me .join (.c (.str ", ")) [(.comp [8, 9] (.t [8, 9]) .seq [(.v 3)] [] true (.bin .add (.bin .add (.v 8) (.c (.str " "))) (.bi .str [(.v 9)])))]) (.c (.str "-"))) (evR u e1 e2 (.fz (.tup (ps.map pD))) e4 e5 e6 e7) = .ok (st (say ps), evR u e1 e2 (.fz (.tup (ps.map pD))) e4 e5 e6 e7) := by
  have hne := ne_tup h
  have cm := comp_say (C := C) (u := u) (e1 := e1) (e2 := e2) (e4 := e4) (e5 := e5) (e6 := e6) (e7 := e7) h l8 l9
  have hj := join_ok (ls := ps.map one) (fun l hl => by
    obtain ⟨p, hp, rfl⟩ := List.mem_map.mp hl
    have := one_len (h.each p hp); omega) (by rw [List.length_map]; have := h.few; omega)
  have hmt : meTy .join (st CM) = true := rfl
  by_cases h0 : ps = []
  · subst h0
    have hne' : cop .ne (.tup []) (.tup []) = some false := rfl
    simp -implicitDefEqProofs only [List.replicate, List.cons_append, List.nil_append, evSs_c, evSs_n, thenS_next, thenS_ret, thenS_brk, thenS_cont, thenS_ex, retF_ret, retF_ex, retF_next, R.bind_ok, R.bind_ex, R.of_some, getE_z, getE_s, getE_n, ev_c, ev_v, kVar_fz, kVar_ow, ev_g, kPure_some, kBool_some, ev_tup, ev_lst, ev_bin, kBin_eq, kBin2_eq, ev_cmp, kCmp_eq, kCmp2_eq, ev_chain, kChain_eq, kChain2_eq, kChain3_t, kChain3_f, ev_isN, ev_notN, ev_not, kNot_eq, ev_and, kAnd_bl, kAnd2_t, kAnd2_f, ev_or, kOr_bl, kOr_lst, kOr2_t, kOr2_f, ev_ife, kIfe_eq, kIfe2_t, kIfe2_f, ev_sub, kSub_eq, kSub2_int, ev_slc, kSlc_eq, kSlc2_eq, kSlc3_eq, ev_calln, ev_bi, kBi_1, kBi_2, ev_isi, kIsi_eq, ev_isx, kIsx_eq, ev_me, kMe2_1, es_n, es_c, kEs_eq, st_asg, st_ret, st_if, kIf_eq, kIf2_t, kIf2_f, st_for, st_unp, st_expr, kExpr_eq, st_rais, st_pass, st_try, kTry_ok, st_set, st_fz, kFz_fz, kFz_no, kOwn_lst, kAsg_eq, kRet_eq, kSto_ok, kIsN_eq, kSeq_ok, Nat.reduceLeDiff, beq_tf, beq_ft, beq_tt, beq_ff, isNon_int, isNon_str, isNon_lst, isNon_tup, isNon_exc, isNon_bl, isNon_non, isOwn_exc, kUnp_2, kUnp_3, res_int, res_bl, res_str, res_lst, res_tup, res_non, nst_c, nst_v, nst_ov, nst_g, nst_tup, nst_lst, nst_bin, nst_neg, nst_cmp, nst_chain, nst_isN, nst_notN, nst_not, nst_and, nst_or, nst_ife, nst_sub, nst_slc, nst_rev, nst_call, nst_call1, nst_bi, nst_isi, nst_isx, nst_me, nst_pop, nst_popAt, nst_comp, nst_bad, isOwn_int, isOwn_bl, isOwn_str, isOwn_non, isOwn_tup, isOwn_lst, isOwn_own, decide_true, decide_false, truth_bl, if_true, if_false, Bool.false_eq_true, lockOf_zo, lockOf_zf, lockOf_zn, lockOf_s, lockOf_n, List.length_cons, List.length_nil, List.set_cons_zero, List.set_cons_succ, Nat.reduceAdd, Nat.reduceLT, ownsX_z, ownsX_s, ownsL_z, ownsL_s, Bool.not_true, Bool.not_false, outsE, bop_add, bop_sub, cop_gt, cop_ge, cop_lt, cop_le, bi_int, bi_intb, bi_abs, bi_lenL, bi_lenT, List.any_cons, List.any_nil, Bool.or_false, Bool.false_or, List.map, hne', s_dash]
    rfl
  · simp -implicitDefEqProofs only [List.replicate, List.cons_append, List.nil_append, evSs_c, evSs_n, thenS_next, thenS_ret, thenS_brk, thenS_cont, thenS_ex, retF_ret, retF_ex, retF_next, R.bind_ok, R.bind_ex, R.of_some, getE_z, getE_s, getE_n, ev_c, ev_v, kVar_fz, kVar_ow, ev_g, kPure_some, kBool_some, ev_tup, ev_lst, ev_bin, kBin_eq, kBin2_eq, ev_cmp, kCmp_eq, kCmp2_eq, ev_chain, kChain_eq, kChain2_eq, kChain3_t, kChain3_f, ev_isN, ev_notN, ev_not, kNot_eq, ev_and, kAnd_bl, kAnd2_t, kAnd2_f, ev_or, kOr_bl, kOr_lst, kOr2_t, kOr2_f, ev_ife, kIfe_eq, kIfe2_t, kIfe2_f, ev_sub, kSub_eq, kSub2_int, ev_slc, kSlc_eq, kSlc2_eq, kSlc3_eq, ev_calln, ev_bi, kBi_1, kBi_2, ev_isi, kIsi_eq, ev_isx, kIsx_eq, ev_me, kMe2_1, es_n, es_c, kEs_eq, st_asg, st_ret, st_if, kIf_eq, kIf2_t, kIf2_f, st_for, st_unp, st_expr, kExpr_eq, st_rais, st_pass, st_try, kTry_ok, st_set, st_fz, kFz_fz, kFz_no, kOwn_lst, kAsg_eq, kRet_eq, kSto_ok, kIsN_eq, kSeq_ok, Nat.reduceLeDiff, beq_tf, beq_ft, beq_tt, beq_ff, isNon_int, isNon_str, isNon_lst, isNon_tup, isNon_exc, isNon_bl, isNon_non, isOwn_exc, kUnp_2, kUnp_3, res_int, res_bl, res_str, res_lst, res_tup, res_non, nst_c, nst_v, nst_ov, nst_g, nst_tup, nst_lst, nst_bin, nst_neg, nst_cmp, nst_chain, nst_isN, nst_notN, nst_not, nst_and, nst_or, nst_ife, nst_sub, nst_slc, nst_rev, nst_call, nst_call1, nst_bi, nst_isi, nst_isx, nst_me, nst_pop, nst_popAt, nst_comp, nst_bad, isOwn_int, isOwn_bl, isOwn_str, isOwn_non, isOwn_tup, isOwn_lst, isOwn_own, decide_true, decide_false, truth_bl, if_true, if_false, Bool.false_eq_true, lockOf_zo, lockOf_zf, lockOf_zn, lockOf_s, lockOf_n, List.length_cons, List.length_nil, List.set_cons_zero, List.set_cons_succ, Nat.reduceAdd, Nat.reduceLT, ownsX_z, ownsX_s, ownsL_z, ownsL_s, Bool.not_true, Bool.not_false, outsE, bop_add, bop_sub, cop_gt, cop_ge, cop_lt, cop_le, bi_int, bi_intb, bi_abs, bi_lenL, bi_lenT, List.any_cons, List.any_nil, Bool.or_false, Bool.false_or, hne, h0, s_cm, kMe_eq, hmt, cm, hj]
    unfold say
    rw [if_neg h0]
end K90

set_option linter.all false
set_option Elab.async false
set_option maxRecDepth 100000
/-! P90n: one turn of the law (own work; printed from P90n.tpl by exp.py). -/
namespace K90
open IV

section
variable {u0 u : D} {m i : Int} {e1 e2 e3 e4 e5 e6 e7 : Ent}
theorem st1 (hu : UrnOk m u) (hm : m < 900000) : ∃ xs u', UrnOk (m + 1) u' ∧ xs ≠ [] ∧ xs.length ≤ 6 ∧ rise xs = true ∧ (∀ x ∈ xs, kindB x = true ∧ x.length ≤ 10) ∧
    evS T (callF T 28) (lkR u0) (.asg 2 (.slc (.lst [(.c (.str "a")), (.c (.str "ab")), (.c (.str "b")), (.c (.str "c")), (.c (.str "host")), (.c (.str "z"))]) (.c .non) (.bin .add (.c (.int 1)) (.call 6 [(.v 0), (.c (.int 6))] [])))) (evR u e1 e2 e3 e4 e5 e6 e7) = .ok (.next, evR u' e1 (.fz (.lst (xs.map st))) e3 e4 e5 e6 e7) := by
  obtain ⟨r, u1, q1, q2, q3, q4⟩ := take_ok 27 (n := 6) hu (by omega) (by decide) (by decide +kernel)
  obtain ⟨xs, h1, h2, h3, h4, h5⟩ := slc_pool q1 q2
  refine ⟨xs, u1, q3, h1, h2, h3, h4, ?_⟩
  have hK := kCall_2 T (callF T 28) (f := 6) (F := f6) rfl rfl
  have d1 := draw (k := 28) q4
  have h5' : slcD (.lst [.str "a", .str "ab", .str "b", .str "c", .str "host", .str "z"]) none (some (1 + r)) = some (.lst (xs.map st)) := h5
  simp -implicitDefEqProofs only [List.replicate, List.cons_append, List.nil_append, evSs_c, evSs_n, thenS_next, thenS_ret, thenS_brk, thenS_cont, thenS_ex, retF_ret, retF_ex, retF_next, R.bind_ok, R.bind_ex, R.of_some, getE_z, getE_s, getE_n, ev_c, ev_v, kVar_fz, kVar_ow, ev_g, kPure_some, kBool_some, ev_tup, ev_lst, ev_bin, kBin_eq, kBin2_eq, ev_cmp, kCmp_eq, kCmp2_eq, ev_chain, kChain_eq, kChain2_eq, kChain3_t, kChain3_f, ev_isN, ev_notN, ev_not, kNot_eq, ev_and, kAnd_bl, kAnd2_t, kAnd2_f, ev_or, kOr_bl, kOr_lst, kOr2_t, kOr2_f, ev_ife, kIfe_eq, kIfe2_t, kIfe2_f, ev_sub, kSub_eq, kSub2_int, ev_slc, kSlc_eq, kSlc2_eq, kSlc3_eq, ev_calln, ev_bi, kBi_1, kBi_2, ev_isi, kIsi_eq, ev_isx, kIsx_eq, ev_me, kMe2_1, es_n, es_c, kEs_eq, st_asg, st_ret, st_if, kIf_eq, kIf2_t, kIf2_f, st_for, st_unp, st_expr, kExpr_eq, st_rais, st_pass, st_try, kTry_ok, st_set, st_fz, kFz_fz, kFz_no, kOwn_lst, kAsg_eq, kRet_eq, kSto_ok, kIsN_eq, kSeq_ok, Nat.reduceLeDiff, beq_tf, beq_ft, beq_tt, beq_ff, isNon_int, isNon_str, isNon_lst, isNon_tup, isNon_exc, isNon_bl, isNon_non, isOwn_exc, kUnp_2, kUnp_3, res_int, res_bl, res_str, res_lst, res_tup, res_non, nst_c, nst_v, nst_ov, nst_g, nst_tup, nst_lst, nst_bin, nst_neg, nst_cmp, nst_chain, nst_isN, nst_notN, nst_not, nst_and, nst_or, nst_ife, nst_sub, nst_slc, nst_rev, nst_call, nst_call1, nst_bi, nst_isi, nst_isx, nst_me, nst_pop, nst_popAt, nst_comp, nst_bad, isOwn_int, isOwn_bl, isOwn_str, isOwn_non, isOwn_tup, isOwn_lst, isOwn_own, decide_true, decide_false, truth_bl, if_true, if_false, Bool.false_eq_true, lockOf_zo, lockOf_zf, lockOf_zn, lockOf_s, lockOf_n, List.length_cons, List.length_nil, List.set_cons_zero, List.set_cons_succ, Nat.reduceAdd, Nat.reduceLT, ownsX_z, ownsX_s, ownsL_z, ownsL_s, Bool.not_true, Bool.not_false, outsE, bop_add, bop_sub, cop_gt, cop_ge, cop_lt, cop_le, bi_int, bi_intb, bi_abs, bi_lenL, bi_lenT, List.any_cons, List.any_nil, Bool.or_false, Bool.false_or, hK, d1, bnd_non, bnd_bin, h5']
theorem st2 {xs : List (List Nat)} (hu : UrnOk m u) (hm : m < 800000) (h1 : xs ≠ []) (h2 : xs.length ≤ 6) (h3 : rise xs = true) (h4 : ∀ x ∈ xs, kindB x = true ∧ x.length ≤ 10) : ∃ ps u', UrnOk (m + 13) u' ∧ LotOk ps ∧
    evS T (callF T 28) (lkR u0) (.asg 3 (.call 11 [(.v 0), (.v 2), (.call 8 [(.v 0), (.lst [(.c (.int 3)), (.c (.int 40)), (.bin .pow (.c (.int 10)) (.c (.int 30)))])] [])] [])) (evR u e1 (.fz (.lst (xs.map st))) e3 e4 e5 e6 e7) = .ok (.next, evR u' e1 (.fz (.lst (xs.map st))) (.fz (.tup (ps.map pD))) e4 e5 e6 e7) := by
  obtain ⟨x, hx, u1, q3, q4⟩ := of_ok 26 (xs := [.int 3, .int 40, .int (10 ^ 30)]) hu (by omega) (by simp) (by simp) (by
    intro x hx
    simp only [List.mem_cons, List.not_mem_nil, or_false] at hx
    rcases hx with rfl | rfl | rfl <;> rfl)
  obtain ⟨most, rfl, m1, m2⟩ : ∃ most : Int, x = .int most ∧ 1 ≤ most ∧ most < 10 ^ 31 - 1 := by
    simp only [List.mem_cons, List.not_mem_nil, or_false] at hx
    rcases hx with rfl | rfl | rfl
    · exact ⟨3, rfl, by decide, by decide⟩
    · exact ⟨40, rfl, by decide, by decide⟩
    · exact ⟨10 ^ 30, rfl, by decide, by decide⟩
  obtain ⟨ps, u2, o, r1, r2, r3⟩ := lot_ok 26 q3 (by omega) m1 m2 h1 h2 h3 h4
  refine ⟨ps, u2, r1.up (by omega), r2, ?_⟩
  have d1 := callD_ow (C := callF T 28) (f := 8) (ds := [.lst [.int 3, .int 40, .int (10 ^ 30)]]) rfl q4
  have d2 := callD_ow (C := callF T 28) (f := 11) (ds := [.lst (xs.map st), .int most]) rfl r3
  simp -implicitDefEqProofs only [List.replicate, List.cons_append, List.nil_append, evSs_c, evSs_n, thenS_next, thenS_ret, thenS_brk, thenS_cont, thenS_ex, retF_ret, retF_ex, retF_next, R.bind_ok, R.bind_ex, R.of_some, getE_z, getE_s, getE_n, ev_c, ev_v, kVar_fz, kVar_ow, ev_g, kPure_some, kBool_some, ev_tup, ev_lst, ev_bin, kBin_eq, kBin2_eq, ev_cmp, kCmp_eq, kCmp2_eq, ev_chain, kChain_eq, kChain2_eq, kChain3_t, kChain3_f, ev_isN, ev_notN, ev_not, kNot_eq, ev_and, kAnd_bl, kAnd2_t, kAnd2_f, ev_or, kOr_bl, kOr_lst, kOr2_t, kOr2_f, ev_ife, kIfe_eq, kIfe2_t, kIfe2_f, ev_sub, kSub_eq, kSub2_int, ev_slc, kSlc_eq, kSlc2_eq, kSlc3_eq, ev_calln, ev_bi, kBi_1, kBi_2, ev_isi, kIsi_eq, ev_isx, kIsx_eq, ev_me, kMe2_1, es_n, es_c, kEs_eq, st_asg, st_ret, st_if, kIf_eq, kIf2_t, kIf2_f, st_for, st_unp, st_expr, kExpr_eq, st_rais, st_pass, st_try, kTry_ok, st_set, st_fz, kFz_fz, kFz_no, kOwn_lst, kAsg_eq, kRet_eq, kSto_ok, kIsN_eq, kSeq_ok, Nat.reduceLeDiff, beq_tf, beq_ft, beq_tt, beq_ff, isNon_int, isNon_str, isNon_lst, isNon_tup, isNon_exc, isNon_bl, isNon_non, isOwn_exc, kUnp_2, kUnp_3, res_int, res_bl, res_str, res_lst, res_tup, res_non, nst_c, nst_v, nst_ov, nst_g, nst_tup, nst_lst, nst_bin, nst_neg, nst_cmp, nst_chain, nst_isN, nst_notN, nst_not, nst_and, nst_or, nst_ife, nst_sub, nst_slc, nst_rev, nst_call, nst_call1, nst_bi, nst_isi, nst_isx, nst_me, nst_pop, nst_popAt, nst_comp, nst_bad, isOwn_int, isOwn_bl, isOwn_str, isOwn_non, isOwn_tup, isOwn_lst, isOwn_own, decide_true, decide_false, truth_bl, if_true, if_false, Bool.false_eq_true, lockOf_zo, lockOf_zf, lockOf_zn, lockOf_s, lockOf_n, List.length_cons, List.length_nil, List.set_cons_zero, List.set_cons_succ, Nat.reduceAdd, Nat.reduceLT, ownsX_z, ownsX_s, ownsL_z, ownsL_s, Bool.not_true, Bool.not_false, outsE, bop_add, bop_sub, cop_gt, cop_ge, cop_lt, cop_le, bi_int, bi_intb, bi_abs, bi_lenL, bi_lenT, List.any_cons, List.any_nil, Bool.or_false, Bool.false_or, kCall_2 T (callF T 28) (f := 8) (F := f8) rfl rfl, kCall_3 T (callF T 28) (f := 11) (F := f11) rfl rfl, ten30, d1, d2]
theorem st4 {ps : List Pr} (h : LotOk ps) : evS T (callF T 28) (lkR u0) (.ifs (.not (.call 10 [(.lst [(.call 2 [(.call 9 [(.v 3)] [])] []), (.call 12 [(.v 4)] [])]), (.lst [(.v 4), (.v 3)])] [])) [.ret (.c (.bl false))] []) (evR u e1 e2 (.fz (.tup (ps.map pD))) (.fz (st (say ps))) e5 e6 e7) = .ok (.next, evR u e1 e2 (.fz (.tup (ps.map pD))) (.fz (st (say ps))) e5 e6 e7) := by
  have hl := say_len h
  have c9 := fun env => callD_fz (C := callF T 28) (f := 9) (ds := [.tup (ps.map pD)]) rfl (lists_ok 25 (ps := ps) (by have := h.few; omega)) env
  have c2' := fun env => callD_fz (C := callF T 28) (f := 2) (ds := [.lst (ps.map pL)]) rfl (crowd_text_ok 27 h) env
  have hh : heardD (say ps) = .tup (ps.map pD) := by unfold heardD; rw [crowdIn_say h]
  have h12 := heard_ok 24 (l := say ps) (by omega)
  rw [hh] at h12
  have c12 := fun env => callD_fz (C := callF T 28) (f := 12) (ds := [st (say ps)]) rfl h12 env
  obtain ⟨o, h10⟩ := same_ok 24 3 _ (sd_told h (say ps))
  have c10 := fun env => callD_fz (C := callF T 28) (f := 10) (ds := [.lst [st (say ps), .tup (ps.map pD)], .lst [st (say ps), .tup (ps.map pD)]]) rfl h10 env
  simp -implicitDefEqProofs only [List.replicate, List.cons_append, List.nil_append, evSs_c, evSs_n, thenS_next, thenS_ret, thenS_brk, thenS_cont, thenS_ex, retF_ret, retF_ex, retF_next, R.bind_ok, R.bind_ex, R.of_some, getE_z, getE_s, getE_n, ev_c, ev_v, kVar_fz, kVar_ow, ev_g, kPure_some, kBool_some, ev_tup, ev_lst, ev_bin, kBin_eq, kBin2_eq, ev_cmp, kCmp_eq, kCmp2_eq, ev_chain, kChain_eq, kChain2_eq, kChain3_t, kChain3_f, ev_isN, ev_notN, ev_not, kNot_eq, ev_and, kAnd_bl, kAnd2_t, kAnd2_f, ev_or, kOr_bl, kOr_lst, kOr2_t, kOr2_f, ev_ife, kIfe_eq, kIfe2_t, kIfe2_f, ev_sub, kSub_eq, kSub2_int, ev_slc, kSlc_eq, kSlc2_eq, kSlc3_eq, ev_calln, ev_bi, kBi_1, kBi_2, ev_isi, kIsi_eq, ev_isx, kIsx_eq, ev_me, kMe2_1, es_n, es_c, kEs_eq, st_asg, st_ret, st_if, kIf_eq, kIf2_t, kIf2_f, st_for, st_unp, st_expr, kExpr_eq, st_rais, st_pass, st_try, kTry_ok, st_set, st_fz, kFz_fz, kFz_no, kOwn_lst, kAsg_eq, kRet_eq, kSto_ok, kIsN_eq, kSeq_ok, Nat.reduceLeDiff, beq_tf, beq_ft, beq_tt, beq_ff, isNon_int, isNon_str, isNon_lst, isNon_tup, isNon_exc, isNon_bl, isNon_non, isOwn_exc, kUnp_2, kUnp_3, res_int, res_bl, res_str, res_lst, res_tup, res_non, nst_c, nst_v, nst_ov, nst_g, nst_tup, nst_lst, nst_bin, nst_neg, nst_cmp, nst_chain, nst_isN, nst_notN, nst_not, nst_and, nst_or, nst_ife, nst_sub, nst_slc, nst_rev, nst_call, nst_call1, nst_bi, nst_isi, nst_isx, nst_me, nst_pop, nst_popAt, nst_comp, nst_bad, isOwn_int, isOwn_bl, isOwn_str, isOwn_non, isOwn_tup, isOwn_lst, isOwn_own, decide_true, decide_false, truth_bl, if_true, if_false, Bool.false_eq_true, lockOf_zo, lockOf_zf, lockOf_zn, lockOf_s, lockOf_n, List.length_cons, List.length_nil, List.set_cons_zero, List.set_cons_succ, Nat.reduceAdd, Nat.reduceLT, ownsX_z, ownsX_s, ownsL_z, ownsL_s, Bool.not_true, Bool.not_false, outsE, bop_add, bop_sub, cop_gt, cop_ge, cop_lt, cop_le, bi_int, bi_intb, bi_abs, bi_lenL, bi_lenT, List.any_cons, List.any_nil, Bool.or_false, Bool.false_or, kCall_1 T (callF T 28) (f := 9) (F := f9) rfl rfl, kCall_1 T (callF T 28) (f := 2) (F := f2) rfl rfl, kCall_1 T (callF T 28) (f := 12) (F := f12) rfl rfl, kCall_2 T (callF T 28) (f := 10) (F := f10) rfl rfl, c9, c2', c12, c10]
theorem st5 {l : List Nat} (hl : l.length ≤ 270) (hu : UrnOk m u) (hm : m < 900000) : ∃ spot sg u', UrnOk (m + 2) u' ∧ 0 ≤ spot ∧ spot ≤ (l.length : Int) ∧ List.length sg ≤ 5 ∧ (∀ c ∈ sg, c < 128) ∧
    evS T (callF T 28) (lkR u0) (.par [6, 7] [false, false] [(.call 6 [(.v 0), (.bin .add (.bi .len [(.v 4)]) (.c (.int 1)))] []), (.call 8 [(.v 0), (.lst [(.c (.str "a")), (.c (.str " ")), (.c (.str ", ")), (.c (.str "0")), (.c (.str "1")), (.c (.str "-")), (.c (.str "")), (.c (.str "b 1, "))])] [])]) (evR u e1 e2 e3 (.fz (st l)) e5 e6 e7) = .ok (.next, evR u' e1 e2 e3 (.fz (st l)) e5 (.fz (.int spot)) (.fz (st sg))) := by
  obtain ⟨r, u1, q1, q2, q3, q4⟩ := take_ok 27 (n := (l.length : Int) + 1) hu (by omega) (by omega) (by
    have : ((l.length : Int) + 1) = ((l.length + 1 : Nat) : Int) := by omega
    rw [this]
    exact log_len (by omega))
  obtain ⟨x, hx, u2, p3, p4⟩ := of_ok 26 (xs := [.str "a", .str " ", .str ", ", .str "0", .str "1", .str "-", .str "", .str "b 1, "]) q3 (by omega) (by simp) (by simp) (by
    intro x hx
    simp only [List.mem_cons, List.not_mem_nil, or_false] at hx
    rcases hx with rfl | rfl | rfl | rfl | rfl | rfl | rfl | rfl <;> rfl)
  obtain ⟨sg, rfl, g1, g2⟩ : ∃ sg, x = st sg ∧ List.length sg ≤ 5 ∧ ∀ c ∈ sg, c < 128 := by
    simp only [List.mem_cons, List.not_mem_nil, or_false] at hx
    rcases hx with rfl | rfl | rfl | rfl | rfl | rfl | rfl | rfl
    · exact ⟨[97], rfl, by decide, by decide⟩
    · exact ⟨[32], rfl, by decide, by decide⟩
    · exact ⟨[44, 32], rfl, by decide, by decide⟩
    · exact ⟨[48], rfl, by decide, by decide⟩
    · exact ⟨[49], rfl, by decide, by decide⟩
    · exact ⟨[45], rfl, by decide, by decide⟩
    · exact ⟨[], rfl, by decide, by decide⟩
    · exact ⟨[98, 32, 49, 44, 32], rfl, by decide, by decide⟩
  refine ⟨r, sg, u2, p3.up (by omega), q1, by omega, g1, g2, ?_⟩
  have d1 := draw (k := 28) q4
  have d2 := callD_ow (C := callF T 28) (f := 8) (ds := [.lst [.str "a", .str " ", .str ", ", .str "0", .str "1", .str "-", .str "", .str "b 1, "]]) rfl p4
  have sp := fun es env => st_par T (callF T 28) (lkR u0) (is := [6, 7]) [false, false] (es := es) env
  have bl : biD .len [st l] = some (.int (l.length : Int)) := by
    show (if l.length ≤ line then some (D.int (l.length : Int)) else none) = _
    rw [if_pos (Nat.le_trans (show l.length ≤ 270 by omega) (by decide))]
  rw [sp _ _ rfl]
  simp -implicitDefEqProofs only [List.replicate, List.cons_append, List.nil_append, evSs_c, evSs_n, thenS_next, thenS_ret, thenS_brk, thenS_cont, thenS_ex, retF_ret, retF_ex, retF_next, R.bind_ok, R.bind_ex, R.of_some, getE_z, getE_s, getE_n, ev_c, ev_v, kVar_fz, kVar_ow, ev_g, kPure_some, kBool_some, ev_tup, ev_lst, ev_bin, kBin_eq, kBin2_eq, ev_cmp, kCmp_eq, kCmp2_eq, ev_chain, kChain_eq, kChain2_eq, kChain3_t, kChain3_f, ev_isN, ev_notN, ev_not, kNot_eq, ev_and, kAnd_bl, kAnd2_t, kAnd2_f, ev_or, kOr_bl, kOr_lst, kOr2_t, kOr2_f, ev_ife, kIfe_eq, kIfe2_t, kIfe2_f, ev_sub, kSub_eq, kSub2_int, ev_slc, kSlc_eq, kSlc2_eq, kSlc3_eq, ev_calln, ev_bi, kBi_1, kBi_2, ev_isi, kIsi_eq, ev_isx, kIsx_eq, ev_me, kMe2_1, es_n, es_c, kEs_eq, st_asg, st_ret, st_if, kIf_eq, kIf2_t, kIf2_f, st_for, st_unp, st_expr, kExpr_eq, st_rais, st_pass, st_try, kTry_ok, st_set, st_fz, kFz_fz, kFz_no, kOwn_lst, kAsg_eq, kRet_eq, kSto_ok, kIsN_eq, kSeq_ok, Nat.reduceLeDiff, beq_tf, beq_ft, beq_tt, beq_ff, isNon_int, isNon_str, isNon_lst, isNon_tup, isNon_exc, isNon_bl, isNon_non, isOwn_exc, kUnp_2, kUnp_3, res_int, res_bl, res_str, res_lst, res_tup, res_non, nst_c, nst_v, nst_ov, nst_g, nst_tup, nst_lst, nst_bin, nst_neg, nst_cmp, nst_chain, nst_isN, nst_notN, nst_not, nst_and, nst_or, nst_ife, nst_sub, nst_slc, nst_rev, nst_call, nst_call1, nst_bi, nst_isi, nst_isx, nst_me, nst_pop, nst_popAt, nst_comp, nst_bad, isOwn_int, isOwn_bl, isOwn_str, isOwn_non, isOwn_tup, isOwn_lst, isOwn_own, decide_true, decide_false, truth_bl, if_true, if_false, Bool.false_eq_true, lockOf_zo, lockOf_zf, lockOf_zn, lockOf_s, lockOf_n, List.length_cons, List.length_nil, List.set_cons_zero, List.set_cons_succ, Nat.reduceAdd, Nat.reduceLT, ownsX_z, ownsX_s, ownsL_z, ownsL_s, Bool.not_true, Bool.not_false, outsE, bop_add, bop_sub, cop_gt, cop_ge, cop_lt, cop_le, bi_int, bi_intb, bi_abs, bi_lenL, bi_lenT, List.any_cons, List.any_nil, Bool.or_false, Bool.false_or, kCall_2 T (callF T 28) (f := 8) (F := f8) rfl rfl, kCall_2 T (callF T 28) (f := 6) (F := f6) rfl rfl, bl, d1, d2, par_2]
theorem st6 {l sg : List Nat} {spot : Int} (hl : l.length ≤ 270) (hu : UrnOk m u) (hm : m < 900000) (h0 : 0 ≤ spot) (h1 : spot ≤ l.length) (hs : sg.length ≤ 5) (hA : ∀ c ∈ l ++ sg, c < 128) : ∃ od u', UrnOk (m + 1) u' ∧ List.length od ≤ 300 ∧ (∀ c ∈ od, c < 128) ∧
    evS T (callF T 28) (lkR u0) (.asg 5 (.bin .add (.bin .add (.slc (.v 4) (.c .non) (.v 6)) (.v 7)) (.slc (.v 4) (.bin .add (.v 6) (.call 6 [(.v 0), (.c (.int 2))] [])) (.c .non)))) (evR u e1 e2 e3 (.fz (st l)) e5 (.fz (.int spot)) (.fz (st sg))) = .ok (.next, evR u' e1 e2 e3 (.fz (st l)) (.fz (st od)) (.fz (.int spot)) (.fz (st sg))) := by
  obtain ⟨r, u1, q1, q2, q3, q4⟩ := take_ok 27 (n := 2) hu (by omega) (by decide) (by decide +kernel)
  have d1 := draw (k := 28) q4
  have s1 := slc_lo (l := l) h0 h1 (by omega)
  have s2 := slc_hi (l := l) (i := spot + r) (by omega) (by omega)
  have t1 : (l.take spot.toNat).length ≤ spot.toNat := by rw [List.length_take]; omega
  have t2 : (l.drop (spot + r).toNat).length ≤ l.length - spot.toNat := by rw [List.length_drop]; omega
  have a1 : bop .add (st (l.take spot.toNat)) (st sg) = some (st (l.take spot.toNat ++ sg)) := add_st (by omega)
  have a2 : bop .add (st (l.take spot.toNat ++ sg)) (st (l.drop (spot + r).toNat)) = some (st (l.take spot.toNat ++ sg ++ l.drop (spot + r).toNat)) := add_st (by rw [List.length_append]; omega)
  refine ⟨l.take spot.toNat ++ sg ++ l.drop (spot + r).toNat, u1, q3, ?_, ?_, ?_⟩
  · rw [List.length_append, List.length_append]; omega
  · intro c hc
    refine hA c ?_
    rcases List.mem_append.mp hc with hc | hc
    · rcases List.mem_append.mp hc with hc | hc
      · exact List.mem_append.mpr (.inl (List.mem_of_mem_take hc))
      · exact List.mem_append.mpr (.inr hc)
    · exact List.mem_append.mpr (.inl (List.mem_of_mem_drop hc))
  · simp -implicitDefEqProofs only [List.replicate, List.cons_append, List.nil_append, evSs_c, evSs_n, thenS_next, thenS_ret, thenS_brk, thenS_cont, thenS_ex, retF_ret, retF_ex, retF_next, R.bind_ok, R.bind_ex, R.of_some, getE_z, getE_s, getE_n, ev_c, ev_v, kVar_fz, kVar_ow, ev_g, kPure_some, kBool_some, ev_tup, ev_lst, ev_bin, kBin_eq, kBin2_eq, ev_cmp, kCmp_eq, kCmp2_eq, ev_chain, kChain_eq, kChain2_eq, kChain3_t, kChain3_f, ev_isN, ev_notN, ev_not, kNot_eq, ev_and, kAnd_bl, kAnd2_t, kAnd2_f, ev_or, kOr_bl, kOr_lst, kOr2_t, kOr2_f, ev_ife, kIfe_eq, kIfe2_t, kIfe2_f, ev_sub, kSub_eq, kSub2_int, ev_slc, kSlc_eq, kSlc2_eq, kSlc3_eq, ev_calln, ev_bi, kBi_1, kBi_2, ev_isi, kIsi_eq, ev_isx, kIsx_eq, ev_me, kMe2_1, es_n, es_c, kEs_eq, st_asg, st_ret, st_if, kIf_eq, kIf2_t, kIf2_f, st_for, st_unp, st_expr, kExpr_eq, st_rais, st_pass, st_try, kTry_ok, st_set, st_fz, kFz_fz, kFz_no, kOwn_lst, kAsg_eq, kRet_eq, kSto_ok, kIsN_eq, kSeq_ok, Nat.reduceLeDiff, beq_tf, beq_ft, beq_tt, beq_ff, isNon_int, isNon_str, isNon_lst, isNon_tup, isNon_exc, isNon_bl, isNon_non, isOwn_exc, kUnp_2, kUnp_3, res_int, res_bl, res_str, res_lst, res_tup, res_non, nst_c, nst_v, nst_ov, nst_g, nst_tup, nst_lst, nst_bin, nst_neg, nst_cmp, nst_chain, nst_isN, nst_notN, nst_not, nst_and, nst_or, nst_ife, nst_sub, nst_slc, nst_rev, nst_call, nst_call1, nst_bi, nst_isi, nst_isx, nst_me, nst_pop, nst_popAt, nst_comp, nst_bad, isOwn_int, isOwn_bl, isOwn_str, isOwn_non, isOwn_tup, isOwn_lst, isOwn_own, decide_true, decide_false, truth_bl, if_true, if_false, Bool.false_eq_true, lockOf_zo, lockOf_zf, lockOf_zn, lockOf_s, lockOf_n, List.length_cons, List.length_nil, List.set_cons_zero, List.set_cons_succ, Nat.reduceAdd, Nat.reduceLT, ownsX_z, ownsX_s, ownsL_z, ownsL_s, Bool.not_true, Bool.not_false, outsE, bop_add, bop_sub, cop_gt, cop_ge, cop_lt, cop_le, bi_int, bi_intb, bi_abs, bi_lenL, bi_lenT, List.any_cons, List.any_nil, Bool.or_false, Bool.false_or, kCall_2 T (callF T 28) (f := 6) (F := f6) rfl rfl, d1, bnd_non, bnd_v, bnd_bin, s1, s2, a1, a2]
theorem st7 {od : List Nat} (hl : od.length ≤ 300) (hA : ∀ c ∈ od, c < 128) : evS T (callF T 28) (lkR u0) (.ifs (.not (.call 10 [(.call 12 [(.v 5)] []), (.call 14 [(.v 5)] [])] [])) [.ret (.c (.bl false))] []) (evR u e1 e2 e3 e4 (.fz (st od)) e6 e7) = .ok (.next, evR u e1 e2 e3 e4 (.fz (st od)) e6 e7) := by
  have c12 := fun env => callD_fz (C := callF T 28) (f := 12) (ds := [st od]) rfl (heard_ok 24 (l := od) hl) env
  obtain ⟨o, h14⟩ := told_ok 27 (l := od) hl hA
  have c14 := fun env => callD_fz (C := callF T 28) (f := 14) (ds := [st od]) rfl h14 env
  obtain ⟨o2, h10⟩ := same_ok 25 2 _ (sd_heard hl)
  have c10 := fun env => callD_fz (C := callF T 28) (f := 10) (ds := [heardD od, heardD od]) (by simp [heard_no]) h10 env
  simp -implicitDefEqProofs only [List.replicate, List.cons_append, List.nil_append, evSs_c, evSs_n, thenS_next, thenS_ret, thenS_brk, thenS_cont, thenS_ex, retF_ret, retF_ex, retF_next, R.bind_ok, R.bind_ex, R.of_some, getE_z, getE_s, getE_n, ev_c, ev_v, kVar_fz, kVar_ow, ev_g, kPure_some, kBool_some, ev_tup, ev_lst, ev_bin, kBin_eq, kBin2_eq, ev_cmp, kCmp_eq, kCmp2_eq, ev_chain, kChain_eq, kChain2_eq, kChain3_t, kChain3_f, ev_isN, ev_notN, ev_not, kNot_eq, ev_and, kAnd_bl, kAnd2_t, kAnd2_f, ev_or, kOr_bl, kOr_lst, kOr2_t, kOr2_f, ev_ife, kIfe_eq, kIfe2_t, kIfe2_f, ev_sub, kSub_eq, kSub2_int, ev_slc, kSlc_eq, kSlc2_eq, kSlc3_eq, ev_calln, ev_bi, kBi_1, kBi_2, ev_isi, kIsi_eq, ev_isx, kIsx_eq, ev_me, kMe2_1, es_n, es_c, kEs_eq, st_asg, st_ret, st_if, kIf_eq, kIf2_t, kIf2_f, st_for, st_unp, st_expr, kExpr_eq, st_rais, st_pass, st_try, kTry_ok, st_set, st_fz, kFz_fz, kFz_no, kOwn_lst, kAsg_eq, kRet_eq, kSto_ok, kIsN_eq, kSeq_ok, Nat.reduceLeDiff, beq_tf, beq_ft, beq_tt, beq_ff, isNon_int, isNon_str, isNon_lst, isNon_tup, isNon_exc, isNon_bl, isNon_non, isOwn_exc, kUnp_2, kUnp_3, res_int, res_bl, res_str, res_lst, res_tup, res_non, nst_c, nst_v, nst_ov, nst_g, nst_tup, nst_lst, nst_bin, nst_neg, nst_cmp, nst_chain, nst_isN, nst_notN, nst_not, nst_and, nst_or, nst_ife, nst_sub, nst_slc, nst_rev, nst_call, nst_call1, nst_bi, nst_isi, nst_isx, nst_me, nst_pop, nst_popAt, nst_comp, nst_bad, isOwn_int, isOwn_bl, isOwn_str, isOwn_non, isOwn_tup, isOwn_lst, isOwn_own, decide_true, decide_false, truth_bl, if_true, if_false, Bool.false_eq_true, lockOf_zo, lockOf_zf, lockOf_zn, lockOf_s, lockOf_n, List.length_cons, List.length_nil, List.set_cons_zero, List.set_cons_succ, Nat.reduceAdd, Nat.reduceLT, ownsX_z, ownsX_s, ownsL_z, ownsL_s, Bool.not_true, Bool.not_false, outsE, bop_add, bop_sub, cop_gt, cop_ge, cop_lt, cop_le, bi_int, bi_intb, bi_abs, bi_lenL, bi_lenT, List.any_cons, List.any_nil, Bool.or_false, Bool.false_or, kCall_1 T (callF T 28) (f := 14) (F := f14) rfl rfl, kCall_1 T (callF T 28) (f := 12) (F := f12) rfl rfl, kCall_2 T (callF T 28) (f := 10) (F := f10) rfl rfl, c12, c14, c10]
theorem turn (hu : UrnOk m u) (hm : m < 700000) : ∃ u' e2' e3' e4' e5' e6' e7', UrnOk (m + 20) u' ∧ evSs T (callF T 28) (lkR u0) rbody (evR u e1 e2 e3 e4 e5 e6 e7) = .ok (.next, evR u' e1 e2' e3' e4' e5' e6' e7') := by
  obtain ⟨xs, u1, a1, a2, a3, a4, a5, a6⟩ := st1 (u0 := u0) (e1 := e1) (e2 := e2) (e3 := e3) (e4 := e4) (e5 := e5) (e6 := e6) (e7 := e7) hu (by omega)
  obtain ⟨ps, u2, b1, b2, b3⟩ := st2 (u0 := u0) (e1 := e1) (e3 := e3) (e4 := e4) (e5 := e5) (e6 := e6) (e7 := e7) a1 (by omega) a2 a3 a4 a5
  have c1' := say_ev (C := callF T 28) (lk := lkR u0) (u := u2) (e1 := e1) (e2 := .fz (.lst (xs.map st))) (e4 := e4) (e5 := e5) (e6 := e6) (e7 := e7) b2 rfl rfl
  have d1 := st4 (u0 := u0) (u := u2) (e1 := e1) (e2 := .fz (.lst (xs.map st))) (e5 := e5) (e6 := e6) (e7 := e7) b2
  obtain ⟨spot, sg, u3, g1, g2, g3, g4, g5, g6⟩ := st5 (u0 := u0) (e1 := e1) (e2 := .fz (.lst (xs.map st))) (e3 := .fz (.tup (ps.map pD))) (e5 := e5) (e6 := e6) (e7 := e7) (say_len b2) b1 (by omega)
  obtain ⟨od, u4, h1, h2, h3, h4⟩ := st6 (u0 := u0) (e1 := e1) (e2 := .fz (.lst (xs.map st))) (e3 := .fz (.tup (ps.map pD))) (e5 := e5) (say_len b2) g1 (by omega) g2 g3 g4 (fun c hc => (List.mem_append.mp hc).elim (say_asc b2 c) (g5 c))
  have k1 := st7 (u0 := u0) (u := u4) (e1 := e1) (e2 := .fz (.lst (xs.map st))) (e3 := .fz (.tup (ps.map pD))) (e4 := .fz (st (say ps))) (e6 := .fz (.int spot)) (e7 := .fz (st sg)) h2 h3
  refine ⟨u4, .fz (.lst (xs.map st)), .fz (.tup (ps.map pD)), .fz (st (say ps)), .fz (st od), .fz (.int spot), .fz (st sg), h1.up (by omega), ?_⟩
  · unfold rbody
    rw [evSs_c, a6, thenS_next, evSs_c, b3, thenS_next, evSs_c, st_asg, c1', R.bind_ok, kAsg_eq _ _ _ rfl, kSto_ok _ _ rfl (show 4 < 10 by decide), thenS_next, evSs_c]
    show thenS _ (evS T (callF T 28) (lkR u0) _ (evR u2 e1 (.fz (.lst (xs.map st))) (.fz (.tup (ps.map pD))) (.fz (st (say ps))) e5 e6 e7)) = _
    rw [d1, thenS_next, evSs_c, g6, thenS_next, evSs_c, h4, thenS_next, evSs_c, k1, thenS_next, evSs_n]
end
end K90

set_option linter.all false
set_option Elab.async false
set_option maxRecDepth 100000
/-! P90o: the plain law (own work; printed from P90o.tpl by exp.py). -/
namespace K90
open IV

def isT : R (D × Env) → Bool
  | .ok (.bl true, []) => true
  | _ => false
theorem isT_eq {r : R (D × Env)} (h : isT r = true) : r = .ok (.bl true, []) := by
  unfold isT at h
  split at h
  · rfl
  · cases h
theorem by_hand : callF T 28 13 [] = .ok (.bl true, []) := isT_eq (by decide +kernel)
theorem right_ok {u : D} (hu : UrnOk 0 u) : ∃ o, callF T 29 15 [.ow u] = .ok (.bl true, o) := by
  have hs : ∀ (i : Nat) (x : D) (env : Env), (rangeD 0 12)[i]? = some x → (∃ u' e1 e2 e3 e4 e5 e6 e7, UrnOk (20 * ((0 : Nat) + i : Nat)) u' ∧ env = evR u' e1 e2 e3 e4 e5 e6 e7) →
      ∃ env', (fun x env1 => (R.of (tgE (lkR u) (.n 1) x env1)).bind fun env2 => evSs T (callF T 28) (lkR u) rbody env2) x env = .ok (.next, env') ∧ ∃ u' e1 e2 e3 e4 e5 e6 e7, UrnOk (20 * ((0 : Nat) + i + 1 : Nat)) u' ∧ env' = evR u' e1 e2 e3 e4 e5 e6 e7 := by
    intro i x env hx hh
    obtain ⟨u', e1, e2, e3, e4, e5, e6, e7, h1, rfl⟩ := hh
    have hi : i < 12 := by
      have := (List.getElem?_eq_some_iff.mp hx).1
      rw [rangeD_len] at this
      exact this
    obtain ⟨j, _, _, rfl⟩ := mem_rangeD (List.mem_of_getElem? hx)
    obtain ⟨u2, a2, a3, a4, a5, a6, a7, h2, h3⟩ := turn (u0 := u) (e1 := .fz (.int j)) (e2 := e2) (e3 := e3) (e4 := e4) (e5 := e5) (e6 := e6) (e7 := e7) h1 (by omega)
    exact ⟨_, h3, u2, _, a2, a3, a4, a5, a6, a7, h2.up (by omega), rfl⟩
  obtain ⟨env', hl, u', e1, e2, e3, e4, e5, e6, e7, _, rfl⟩ := loopS_inv (step := fun x env1 => (R.of (tgE (lkR u) (.n 1) x env1)).bind fun env2 => evSs T (callF T 28) (lkR u) rbody env2) (fun n env => ∃ u' e1 e2 e3 e4 e5 e6 e7, UrnOk (20 * (n : Nat)) u' ∧ env = evR u' e1 e2 e3 e4 e5 e6 e7) (rangeD 0 12) 0 (evR u .no .no .no .no .no .no .no) ⟨u, _, _, _, _, _, _, _, hu.up (by omega), rfl⟩ hs
  have kf : ∀ env, kFor T (callF T 28) (lkR u) (.n 1) .rng rbody ([.int 12], env) = loopS (fun x env1 => (R.of (tgE (lkR u) (.n 1) x env1)).bind fun env2 => evSs T (callF T 28) (lkR u) rbody env2) (rangeD 0 12) env := fun env => kFor_eq T (callF T 28) (lkR u) (.n 1) (k := .rng) rbody (ds := [.int 12]) (xs := rangeD 0 12) env rfl rfl
  have c13 := fun env => callD_fz (C := callF T 28) (f := 13) (ds := []) rfl by_hand env
  rw [callF_eq 28 (F := f15) rfl rfl rfl]
  show ∃ o, retF false _ (evSs T (callF T 28) _ b15 _) = _
  rw [b15_eq]
  refine ⟨[.ow u'], ?_⟩
  simp -implicitDefEqProofs only [List.replicate, List.cons_append, List.nil_append, evSs_c, evSs_n, thenS_next, thenS_ret, thenS_brk, thenS_cont, thenS_ex, retF_ret, retF_ex, retF_next, R.bind_ok, R.bind_ex, R.of_some, getE_z, getE_s, getE_n, ev_c, ev_v, kVar_fz, kVar_ow, ev_g, kPure_some, kBool_some, ev_tup, ev_lst, ev_bin, kBin_eq, kBin2_eq, ev_cmp, kCmp_eq, kCmp2_eq, ev_chain, kChain_eq, kChain2_eq, kChain3_t, kChain3_f, ev_isN, ev_notN, ev_not, kNot_eq, ev_and, kAnd_bl, kAnd2_t, kAnd2_f, ev_or, kOr_bl, kOr_lst, kOr2_t, kOr2_f, ev_ife, kIfe_eq, kIfe2_t, kIfe2_f, ev_sub, kSub_eq, kSub2_int, ev_slc, kSlc_eq, kSlc2_eq, kSlc3_eq, ev_calln, ev_bi, kBi_1, kBi_2, ev_isi, kIsi_eq, ev_isx, kIsx_eq, ev_me, kMe2_1, es_n, es_c, kEs_eq, st_asg, st_ret, st_if, kIf_eq, kIf2_t, kIf2_f, st_for, st_unp, st_expr, kExpr_eq, st_rais, st_pass, st_try, kTry_ok, st_set, st_fz, kFz_fz, kFz_no, kOwn_lst, kAsg_eq, kRet_eq, kSto_ok, kIsN_eq, kSeq_ok, Nat.reduceLeDiff, beq_tf, beq_ft, beq_tt, beq_ff, isNon_int, isNon_str, isNon_lst, isNon_tup, isNon_exc, isNon_bl, isNon_non, isOwn_exc, kUnp_2, kUnp_3, res_int, res_bl, res_str, res_lst, res_tup, res_non, nst_c, nst_v, nst_ov, nst_g, nst_tup, nst_lst, nst_bin, nst_neg, nst_cmp, nst_chain, nst_isN, nst_notN, nst_not, nst_and, nst_or, nst_ife, nst_sub, nst_slc, nst_rev, nst_call, nst_call1, nst_bi, nst_isi, nst_isx, nst_me, nst_pop, nst_popAt, nst_comp, nst_bad, isOwn_int, isOwn_bl, isOwn_str, isOwn_non, isOwn_tup, isOwn_lst, isOwn_own, decide_true, decide_false, truth_bl, if_true, if_false, Bool.false_eq_true, lockOf_zo, lockOf_zf, lockOf_zn, lockOf_s, lockOf_n, List.length_cons, List.length_nil, List.set_cons_zero, List.set_cons_succ, Nat.reduceAdd, Nat.reduceLT, ownsX_z, ownsX_s, ownsL_z, ownsL_s, Bool.not_true, Bool.not_false, outsE, bop_add, bop_sub, cop_gt, cop_ge, cop_lt, cop_le, bi_int, bi_intb, bi_abs, bi_lenL, bi_lenT, List.any_cons, List.any_nil, Bool.or_false, Bool.false_or, f15, kCall_0 T (callF T 28) (f := 13) (F := f13) rfl rfl, c13]
  rw [kf]
  have hl' : loopS (fun x env1 => (R.of (tgE (lkR u) (.n 1) x env1)).bind fun env2 => evSs T (callF T 28) (lkR u) rbody env2) (rangeD 0 12) [.ow u, .no, .no, .no, .no, .no, .no, .no, .no, .no] = _ := hl
  rw [hl']
  simp -implicitDefEqProofs only [List.replicate, List.cons_append, List.nil_append, evSs_c, evSs_n, thenS_next, thenS_ret, thenS_brk, thenS_cont, thenS_ex, retF_ret, retF_ex, retF_next, R.bind_ok, R.bind_ex, R.of_some, getE_z, getE_s, getE_n, ev_c, ev_v, kVar_fz, kVar_ow, ev_g, kPure_some, kBool_some, ev_tup, ev_lst, ev_bin, kBin_eq, kBin2_eq, ev_cmp, kCmp_eq, kCmp2_eq, ev_chain, kChain_eq, kChain2_eq, kChain3_t, kChain3_f, ev_isN, ev_notN, ev_not, kNot_eq, ev_and, kAnd_bl, kAnd2_t, kAnd2_f, ev_or, kOr_bl, kOr_lst, kOr2_t, kOr2_f, ev_ife, kIfe_eq, kIfe2_t, kIfe2_f, ev_sub, kSub_eq, kSub2_int, ev_slc, kSlc_eq, kSlc2_eq, kSlc3_eq, ev_calln, ev_bi, kBi_1, kBi_2, ev_isi, kIsi_eq, ev_isx, kIsx_eq, ev_me, kMe2_1, es_n, es_c, kEs_eq, st_asg, st_ret, st_if, kIf_eq, kIf2_t, kIf2_f, st_for, st_unp, st_expr, kExpr_eq, st_rais, st_pass, st_try, kTry_ok, st_set, st_fz, kFz_fz, kFz_no, kOwn_lst, kAsg_eq, kRet_eq, kSto_ok, kIsN_eq, kSeq_ok, Nat.reduceLeDiff, beq_tf, beq_ft, beq_tt, beq_ff, isNon_int, isNon_str, isNon_lst, isNon_tup, isNon_exc, isNon_bl, isNon_non, isOwn_exc, kUnp_2, kUnp_3, res_int, res_bl, res_str, res_lst, res_tup, res_non, nst_c, nst_v, nst_ov, nst_g, nst_tup, nst_lst, nst_bin, nst_neg, nst_cmp, nst_chain, nst_isN, nst_notN, nst_not, nst_and, nst_or, nst_ife, nst_sub, nst_slc, nst_rev, nst_call, nst_call1, nst_bi, nst_isi, nst_isx, nst_me, nst_pop, nst_popAt, nst_comp, nst_bad, isOwn_int, isOwn_bl, isOwn_str, isOwn_non, isOwn_tup, isOwn_lst, isOwn_own, decide_true, decide_false, truth_bl, if_true, if_false, Bool.false_eq_true, lockOf_zo, lockOf_zf, lockOf_zn, lockOf_s, lockOf_n, List.length_cons, List.length_nil, List.set_cons_zero, List.set_cons_succ, Nat.reduceAdd, Nat.reduceLT, ownsX_z, ownsX_s, ownsL_z, ownsL_s, Bool.not_true, Bool.not_false, outsE, bop_add, bop_sub, cop_gt, cop_ge, cop_lt, cop_le, bi_int, bi_intb, bi_abs, bi_lenL, bi_lenT, List.any_cons, List.any_nil, Bool.or_false, Bool.false_or]
/-! ### boxes and cells -/
theorem pow18 : bop .pow (.int 10) (.int 18) = some (.int (10 ^ 18)) := rfl
theorem box_ok {cs : List Int} {j : Int} (h0 : 0 ≤ j) (h1 : j < cs.length) (hl : cs.length ≤ 3) : ∃ u, UrnOk 0 u ∧ isObj u = true ∧ callF T 29 5 [.fz (.lst (cs.map .int)), .fz (.int j)] = .ok (u, [.no, .no]) := by
  have hr : j.toNat < cs.length := by omega
  have hs : IV.subD (.lst (cs.map .int)) (.int j) = some (.int cs[j.toNat]) := by
    show L2.atI (cs.map D.int) j = _
    unfold L2.atI L2.ixN
    rw [if_pos h0, if_pos (by rw [List.length_map]; exact h1), Option.bind_some, List.getElem?_map, List.getElem?_eq_getElem hr]
    rfl
  have hlt : j < (((cs.map D.int).length : Nat) : Int) := by rw [List.length_map]; exact h1
  generalize cs[j.toNat] = c at hs
  have nw : newE T (.lst [(.bin .mul (.bi .abs [(.v 2)]) (.bi .int [(.cmp .ge (.bi .abs [(.v 2)]) (.bin .pow (.c (.int 10)) (.c (.int 18))))])), (.bin .add (.bin .add (.bin .mod (.bi .int [(.v 2)]) (.c (.int 2305843009213693951))) (.bin .mul (.c (.int 39373)) (.v 1))) (.c (.int 618090))), (.c (.int 0))]) = true := rfl
  have sr := fun env => st_retN T (callF T 28) (lockOf [.fz (.lst (cs.map .int)), .fz (.int j)]) env nw
  have ml : ∀ (x : Int) (b : Bool), bop .mul (.int x) (.int (if b = true then 1 else 0)) = some (.int (x * (if b = true then 1 else 0))) := fun x b => bop_mul (by cases b <;> simp [small])
  have m2 : bop .mul (.int 39373) (.int j) = some (.int (39373 * j)) := bop_mul (by rw [show small 39373 = true by decide]; rfl)
  have md := Int.fmod_nonneg_of_pos c (show (0 : Int) < 2305843009213693951 by decide)
  have md2 := Int.fmod_lt_of_pos c (show (0 : Int) < 2305843009213693951 by decide)
  obtain ⟨x, hx⟩ : ∃ x, callF T 29 5 [.fz (.lst (cs.map .int)), .fz (.int j)] = x := ⟨_, rfl⟩
  have h2 := hx
  rw [callF_eq 28 (F := f5) rfl rfl rfl] at h2
  simp -implicitDefEqProofs only [List.replicate, List.cons_append, List.nil_append, evSs_c, evSs_n, thenS_next, thenS_ret, thenS_brk, thenS_cont, thenS_ex, retF_ret, retF_ex, retF_next, R.bind_ok, R.bind_ex, R.of_some, getE_z, getE_s, getE_n, ev_c, ev_v, kVar_fz, kVar_ow, ev_g, kPure_some, kBool_some, ev_tup, ev_lst, ev_bin, kBin_eq, kBin2_eq, ev_cmp, kCmp_eq, kCmp2_eq, ev_chain, kChain_eq, kChain2_eq, kChain3_t, kChain3_f, ev_isN, ev_notN, ev_not, kNot_eq, ev_and, kAnd_bl, kAnd2_t, kAnd2_f, ev_or, kOr_bl, kOr_lst, kOr2_t, kOr2_f, ev_ife, kIfe_eq, kIfe2_t, kIfe2_f, ev_sub, kSub_eq, kSub2_int, ev_slc, kSlc_eq, kSlc2_eq, kSlc3_eq, ev_calln, ev_bi, kBi_1, kBi_2, ev_isi, kIsi_eq, ev_isx, kIsx_eq, ev_me, kMe2_1, es_n, es_c, kEs_eq, st_asg, st_ret, st_if, kIf_eq, kIf2_t, kIf2_f, st_for, st_unp, st_expr, kExpr_eq, st_rais, st_pass, st_try, kTry_ok, st_set, st_fz, kFz_fz, kFz_no, kOwn_lst, kAsg_eq, kRet_eq, kSto_ok, kIsN_eq, kSeq_ok, Nat.reduceLeDiff, beq_tf, beq_ft, beq_tt, beq_ff, isNon_int, isNon_str, isNon_lst, isNon_tup, isNon_exc, isNon_bl, isNon_non, isOwn_exc, kUnp_2, kUnp_3, res_int, res_bl, res_str, res_lst, res_tup, res_non, nst_c, nst_v, nst_ov, nst_g, nst_tup, nst_lst, nst_bin, nst_neg, nst_cmp, nst_chain, nst_isN, nst_notN, nst_not, nst_and, nst_or, nst_ife, nst_sub, nst_slc, nst_rev, nst_call, nst_call1, nst_bi, nst_isi, nst_isx, nst_me, nst_pop, nst_popAt, nst_comp, nst_bad, isOwn_int, isOwn_bl, isOwn_str, isOwn_non, isOwn_tup, isOwn_lst, isOwn_own, decide_true, decide_false, truth_bl, if_true, if_false, Bool.false_eq_true, lockOf_zo, lockOf_zf, lockOf_zn, lockOf_s, lockOf_n, List.length_cons, List.length_nil, List.set_cons_zero, List.set_cons_succ, Nat.reduceAdd, Nat.reduceLT, ownsX_z, ownsX_s, ownsL_z, ownsL_s, Bool.not_true, Bool.not_false, outsE, bop_add, bop_sub, cop_gt, cop_ge, cop_lt, cop_le, bi_int, bi_intb, bi_abs, bi_lenL, bi_lenT, List.any_cons, List.any_nil, Bool.or_false, Bool.false_or, f5, b5, hlt, hs, sr, pow18, ml, m2, bop_mod (show (0 : Int) < 2305843009213693951 by decide)] at h2
  rw [kRetN_eq _ rfl] at h2
  refine ⟨_, ?_, ?_, hx.trans (h2.symm.trans rfl)⟩
  · exact ⟨_, _, _, rfl, by omega, by omega, by omega, by omega⟩
  · rfl
end K90

set_option linter.all false
set_option Elab.async false
set_option maxRecDepth 100000
/-! P90p: the plain law, whole (own work; printed from P90p.tpl by exp.py). -/
namespace K90
open IV

def cb : List IS := [.asg 5 (.bin .mod (.bi .int [(.v 3)]) (.v 1)), .set 2 (.v 5) (.bin .add (.sub (.v 2) (.v 5)) (.bin .mul (.v 4) (.bin .add (.v 3) (.c (.int 2)))))]
theorem b7_eq : b7 = [.own 2 (.or (.bi .list [(.slc (.v 0) (.c .non) (.v 1))]) (.lst [(.c (.int 0))])), .for_ (.t [3, 4]) .enum [(.slc (.v 0) (.v 1) (.c (.int 63)))] cb, .fz 2 (.ret (.v 2))] := rfl
abbrev evC (sc : D) (cs : List Int) (e3 e4 e5 : Ent) : Env := [.fz sc, .fz (.int 3), .ow (.lst (cs.map .int)), e3, e4, e5]
abbrev lkC (sc : D) : Lk := lockOf [.fz sc, .fz (.int 3)]
theorem res_ow2 (a b : Ent) (d : D) (env : Env) : res (a :: b :: .ow d :: env) (.own 2) = d := rfl
theorem sub_ints {cs : List Int} {j : Int} (h0 : 0 ≤ j) (h1 : j < cs.length) : ∃ c, IV.subD (.lst (cs.map .int)) (.int j) = some (.int c) := by
  have hr : j.toNat < cs.length := by omega
  refine ⟨cs[j.toNat], ?_⟩
  show L2.atI (cs.map D.int) j = _
  unfold L2.atI L2.ixN
  rw [if_pos h0, if_pos (by rw [List.length_map]; exact h1), Option.bind_some, List.getElem?_map, List.getElem?_eq_getElem hr]
  rfl
theorem cell_step {sc : D} {cs : List Int} {i c : Int} {e5 : Ent} (hc : cs.length = 3) (h0 : 0 ≤ i) (h1 : i < 100) : ∃ cs' e5', cs'.length = 3 ∧ evSs T (callF T 28) (lkC sc) cb (evC sc cs (.fz (.int i)) (.fz (.int c)) e5) = .ok (.next, evC sc cs' (.fz (.int i)) (.fz (.int c)) e5') := by
  have m0 := Int.fmod_nonneg_of_pos i (show (0 : Int) < 3 by decide)
  have m1 := Int.fmod_lt_of_pos i (show (0 : Int) < 3 by decide)
  obtain ⟨d, hd⟩ := sub_ints (cs := cs) m0 (by omega)
  have ml : bop .mul (.int c) (.int (i + 2)) = some (.int (c * (i + 2))) := bop_mul (by
    have : small (i + 2) = true := by simp [small]; omega
    rw [this, Bool.or_true])
  have ix : L2.ixN ((cs.map D.int).length) (i.fmod 3) = some (i.fmod 3).toNat := by
    unfold L2.ixN
    rw [if_pos m0, if_pos (by rw [List.length_map]; omega)]
  have k3 : ∀ env, kSet3 2 (.int (d + c * (i + 2))) (.int (i.fmod 3), .fz sc :: .fz (.int 3) :: .ow (.lst (cs.map .int)) :: env) = .ok (.next, .fz sc :: .fz (.int 3) :: .ow (.lst ((cs.set (i.fmod 3).toNat (d + c * (i + 2))).map .int)) :: env) := fun env => by
    rw [kSet3_lst rfl rfl, ix, R.of_some, R.bind_ok, List.map_set]
    rfl
  refine ⟨cs.set (i.fmod 3).toNat (d + c * (i + 2)), .fz (.int (i.fmod 3)), by simpa using hc, ?_⟩
  simp -implicitDefEqProofs only [List.replicate, List.cons_append, List.nil_append, evSs_c, evSs_n, thenS_next, thenS_ret, thenS_brk, thenS_cont, thenS_ex, retF_ret, retF_ex, retF_next, R.bind_ok, R.bind_ex, R.of_some, getE_z, getE_s, getE_n, ev_c, ev_v, kVar_fz, kVar_ow, ev_g, kPure_some, kBool_some, ev_tup, ev_lst, ev_bin, kBin_eq, kBin2_eq, ev_cmp, kCmp_eq, kCmp2_eq, ev_chain, kChain_eq, kChain2_eq, kChain3_t, kChain3_f, ev_isN, ev_notN, ev_not, kNot_eq, ev_and, kAnd_bl, kAnd2_t, kAnd2_f, ev_or, kOr_bl, kOr_lst, kOr2_t, kOr2_f, ev_ife, kIfe_eq, kIfe2_t, kIfe2_f, ev_sub, kSub_eq, kSub2_int, ev_slc, kSlc_eq, kSlc2_eq, kSlc3_eq, ev_calln, ev_bi, kBi_1, kBi_2, ev_isi, kIsi_eq, ev_isx, kIsx_eq, ev_me, kMe2_1, es_n, es_c, kEs_eq, st_asg, st_ret, st_if, kIf_eq, kIf2_t, kIf2_f, st_for, st_unp, st_expr, kExpr_eq, st_rais, st_pass, st_try, kTry_ok, st_set, st_fz, kFz_fz, kFz_no, kOwn_lst, kAsg_eq, kRet_eq, kSto_ok, kIsN_eq, kSeq_ok, Nat.reduceLeDiff, beq_tf, beq_ft, beq_tt, beq_ff, isNon_int, isNon_str, isNon_lst, isNon_tup, isNon_exc, isNon_bl, isNon_non, isOwn_exc, kUnp_2, kUnp_3, res_int, res_bl, res_str, res_lst, res_tup, res_non, nst_c, nst_v, nst_ov, nst_g, nst_tup, nst_lst, nst_bin, nst_neg, nst_cmp, nst_chain, nst_isN, nst_notN, nst_not, nst_and, nst_or, nst_ife, nst_sub, nst_slc, nst_rev, nst_call, nst_call1, nst_bi, nst_isi, nst_isx, nst_me, nst_pop, nst_popAt, nst_comp, nst_bad, isOwn_int, isOwn_bl, isOwn_str, isOwn_non, isOwn_tup, isOwn_lst, isOwn_own, decide_true, decide_false, truth_bl, if_true, if_false, Bool.false_eq_true, lockOf_zo, lockOf_zf, lockOf_zn, lockOf_s, lockOf_n, List.length_cons, List.length_nil, List.set_cons_zero, List.set_cons_succ, Nat.reduceAdd, Nat.reduceLT, ownsX_z, ownsX_s, ownsL_z, ownsL_s, Bool.not_true, Bool.not_false, outsE, bop_add, bop_sub, cop_gt, cop_ge, cop_lt, cop_le, bi_int, bi_intb, bi_abs, bi_lenL, bi_lenT, List.any_cons, List.any_nil, Bool.or_false, Bool.false_or, cb, bop_mod (show (0 : Int) < 3 by decide), res_ow2, hd, ml, kSet_eq, k3]
def stepC (sc : D) : D → Env → R (Fl × Env) := fun x env1 => (R.of (tgE (lkC sc) (.t [3, 4]) x env1)).bind fun env2 => evSs T (callF T 28) (lkC sc) cb env2
theorem cell_loop {sc : D} : ∀ (ys : List Int) (i : Int) (cs : List Int) (e3 e4 e5 : Ent), cs.length = 3 → 0 ≤ i → i + ys.length < 100 → ∃ cs' e3' e4' e5', cs'.length = 3 ∧ loopS (stepC sc) (enumD i (ys.map .int)) (evC sc cs e3 e4 e5) = .ok (.next, evC sc cs' e3' e4' e5')
  | [], i, cs, e3, e4, e5, hc, _, _ => ⟨cs, e3, e4, e5, hc, rfl⟩
  | y :: ys, i, cs, e3, e4, e5, hc, h0, h1 => by
    simp only [List.length_cons] at h1
    obtain ⟨cs1, e5', h2, h3⟩ := cell_step (sc := sc) (cs := cs) (i := i) (c := y) (e5 := e5) hc h0 (by omega)
    obtain ⟨cs2, a, b, c, h4, h5⟩ := cell_loop ys (i + 1) cs1 (.fz (.int i)) (.fz (.int y)) e5' h2 (by omega) (by omega)
    refine ⟨cs2, a, b, c, h4, ?_⟩
    have hst : stepC sc (.tup [.int i, .int y]) (evC sc cs e3 e4 e5) = evSs T (callF T 28) (lkC sc) cb (evC sc cs (.fz (.int i)) (.fz (.int y)) e5) := rfl
    show loopS (stepC sc) (.tup [.int i, .int y] :: enumD (i + 1) (ys.map .int)) _ = _
    rw [loopS, hst, h3]
    exact h5
theorem sIx3 (n d : Nat) : HT.sIx n d (some 3) = min 3 n := HT.sIx_nat n d 3
theorem sIx63 (n d : Nat) : HT.sIx n d (some 63) = min 63 n := HT.sIx_nat n d 63
theorem cells_ok {ns : List Int} (hn : ns.length ≤ 63) : ∃ cs o, 1 ≤ List.length cs ∧ cs.length ≤ 3 ∧ callF T 29 7 [.fz (.lst (ns.map .int)), .fz (.int 3)] = .ok (.lst (cs.map .int), o) := by
  have s1 : slcD (.lst (ns.map .int)) none (some 3) = some (.lst ((ns.take 3).map .int)) := by
    show some (D.lst (((ns.map D.int).drop 0).take (HT.sIx (ns.map D.int).length (ns.map D.int).length (some 3) - 0))) = _
    rw [sIx3, List.drop_zero, Nat.sub_zero, ← List.map_take, List.length_map]
    congr 3
    by_cases h : 3 ≤ ns.length
    · rw [Nat.min_eq_left h]
    · rw [Nat.min_eq_right (by omega), List.take_of_length_le (Nat.le_refl _), List.take_of_length_le (by omega)]
  have s2 : slcD (.lst (ns.map .int)) (some 3) (some 63) = some (.lst (((ns.drop (min 3 ns.length)).take (min 63 ns.length - min 3 ns.length)).map .int)) := by
    show some (D.lst (((ns.map D.int).drop (HT.sIx (ns.map D.int).length 0 (some 3))).take (HT.sIx (ns.map D.int).length (ns.map D.int).length (some 63) - HT.sIx (ns.map D.int).length 0 (some 3)))) = _
    rw [sIx3, sIx63, List.length_map, ← List.map_drop, ← List.map_take]
  obtain ⟨cs0, hc0, hc1, hc2, hor⟩ : ∃ cs0 : List Int, 1 ≤ cs0.length ∧ cs0.length ≤ 3 ∧ (3 < ns.length → cs0.length = 3) ∧ ∀ env, evE T (callF T 28) (lkC (.lst (ns.map .int))) (.or (.bi .list [(.slc (.v 0) (.c .non) (.v 1))]) (.lst [(.c (.int 0))])) (.fz (.lst (ns.map .int)) :: .fz (.int 3) :: env) = .ok (.lst (cs0.map .int), .fz (.lst (ns.map .int)) :: .fz (.int 3) :: env) := by
    have bl : biD .list [.lst ((ns.take 3).map .int)] = some (.lst ((ns.take 3).map .int)) := rfl
    by_cases h : ns = []
    · subst h
      refine ⟨[0], by simp, by simp, by simp, fun env => ?_⟩
      have e : (([] : List Int).take 3).map D.int = [] := rfl
      have bl0 : biD .list [.lst []] = some (.lst []) := rfl
      have s1' : slcD (.lst []) none (some 3) = some (.lst []) := rfl
      have emp : (([] : List D).isEmpty) = true := rfl
      simp -implicitDefEqProofs only [List.replicate, List.cons_append, List.nil_append, evSs_c, evSs_n, thenS_next, thenS_ret, thenS_brk, thenS_cont, thenS_ex, retF_ret, retF_ex, retF_next, R.bind_ok, R.bind_ex, R.of_some, getE_z, getE_s, getE_n, ev_c, ev_v, kVar_fz, kVar_ow, ev_g, kPure_some, kBool_some, ev_tup, ev_lst, ev_bin, kBin_eq, kBin2_eq, ev_cmp, kCmp_eq, kCmp2_eq, ev_chain, kChain_eq, kChain2_eq, kChain3_t, kChain3_f, ev_isN, ev_notN, ev_not, kNot_eq, ev_and, kAnd_bl, kAnd2_t, kAnd2_f, ev_or, kOr_bl, kOr_lst, kOr2_t, kOr2_f, ev_ife, kIfe_eq, kIfe2_t, kIfe2_f, ev_sub, kSub_eq, kSub2_int, ev_slc, kSlc_eq, kSlc2_eq, kSlc3_eq, ev_calln, ev_bi, kBi_1, kBi_2, ev_isi, kIsi_eq, ev_isx, kIsx_eq, ev_me, kMe2_1, es_n, es_c, kEs_eq, st_asg, st_ret, st_if, kIf_eq, kIf2_t, kIf2_f, st_for, st_unp, st_expr, kExpr_eq, st_rais, st_pass, st_try, kTry_ok, st_set, st_fz, kFz_fz, kFz_no, kOwn_lst, kAsg_eq, kRet_eq, kSto_ok, kIsN_eq, kSeq_ok, Nat.reduceLeDiff, beq_tf, beq_ft, beq_tt, beq_ff, isNon_int, isNon_str, isNon_lst, isNon_tup, isNon_exc, isNon_bl, isNon_non, isOwn_exc, kUnp_2, kUnp_3, res_int, res_bl, res_str, res_lst, res_tup, res_non, nst_c, nst_v, nst_ov, nst_g, nst_tup, nst_lst, nst_bin, nst_neg, nst_cmp, nst_chain, nst_isN, nst_notN, nst_not, nst_and, nst_or, nst_ife, nst_sub, nst_slc, nst_rev, nst_call, nst_call1, nst_bi, nst_isi, nst_isx, nst_me, nst_pop, nst_popAt, nst_comp, nst_bad, isOwn_int, isOwn_bl, isOwn_str, isOwn_non, isOwn_tup, isOwn_lst, isOwn_own, decide_true, decide_false, truth_bl, if_true, if_false, Bool.false_eq_true, lockOf_zo, lockOf_zf, lockOf_zn, lockOf_s, lockOf_n, List.length_cons, List.length_nil, List.set_cons_zero, List.set_cons_succ, Nat.reduceAdd, Nat.reduceLT, ownsX_z, ownsX_s, ownsL_z, ownsL_s, Bool.not_true, Bool.not_false, outsE, bop_add, bop_sub, cop_gt, cop_ge, cop_lt, cop_le, bi_int, bi_intb, bi_abs, bi_lenL, bi_lenT, List.any_cons, List.any_nil, Bool.or_false, Bool.false_or, List.map, bnd_non, bnd_v, s1', bl0, emp]
    · have hp := List.length_pos_iff.mpr h
      refine ⟨ns.take 3, by rw [List.length_take]; omega, by rw [List.length_take]; omega, fun q => by rw [List.length_take]; omega, fun env => ?_⟩
      have emp : ((ns.take 3).map D.int).isEmpty = false := by
        rw [List.isEmpty_eq_false_iff]
        intro z
        have := congrArg List.length z
        rw [List.length_map, List.length_take, List.length_nil] at this
        omega
      simp -implicitDefEqProofs only [List.replicate, List.cons_append, List.nil_append, evSs_c, evSs_n, thenS_next, thenS_ret, thenS_brk, thenS_cont, thenS_ex, retF_ret, retF_ex, retF_next, R.bind_ok, R.bind_ex, R.of_some, getE_z, getE_s, getE_n, ev_c, ev_v, kVar_fz, kVar_ow, ev_g, kPure_some, kBool_some, ev_tup, ev_lst, ev_bin, kBin_eq, kBin2_eq, ev_cmp, kCmp_eq, kCmp2_eq, ev_chain, kChain_eq, kChain2_eq, kChain3_t, kChain3_f, ev_isN, ev_notN, ev_not, kNot_eq, ev_and, kAnd_bl, kAnd2_t, kAnd2_f, ev_or, kOr_bl, kOr_lst, kOr2_t, kOr2_f, ev_ife, kIfe_eq, kIfe2_t, kIfe2_f, ev_sub, kSub_eq, kSub2_int, ev_slc, kSlc_eq, kSlc2_eq, kSlc3_eq, ev_calln, ev_bi, kBi_1, kBi_2, ev_isi, kIsi_eq, ev_isx, kIsx_eq, ev_me, kMe2_1, es_n, es_c, kEs_eq, st_asg, st_ret, st_if, kIf_eq, kIf2_t, kIf2_f, st_for, st_unp, st_expr, kExpr_eq, st_rais, st_pass, st_try, kTry_ok, st_set, st_fz, kFz_fz, kFz_no, kOwn_lst, kAsg_eq, kRet_eq, kSto_ok, kIsN_eq, kSeq_ok, Nat.reduceLeDiff, beq_tf, beq_ft, beq_tt, beq_ff, isNon_int, isNon_str, isNon_lst, isNon_tup, isNon_exc, isNon_bl, isNon_non, isOwn_exc, kUnp_2, kUnp_3, res_int, res_bl, res_str, res_lst, res_tup, res_non, nst_c, nst_v, nst_ov, nst_g, nst_tup, nst_lst, nst_bin, nst_neg, nst_cmp, nst_chain, nst_isN, nst_notN, nst_not, nst_and, nst_or, nst_ife, nst_sub, nst_slc, nst_rev, nst_call, nst_call1, nst_bi, nst_isi, nst_isx, nst_me, nst_pop, nst_popAt, nst_comp, nst_bad, isOwn_int, isOwn_bl, isOwn_str, isOwn_non, isOwn_tup, isOwn_lst, isOwn_own, decide_true, decide_false, truth_bl, if_true, if_false, Bool.false_eq_true, lockOf_zo, lockOf_zf, lockOf_zn, lockOf_s, lockOf_n, List.length_cons, List.length_nil, List.set_cons_zero, List.set_cons_succ, Nat.reduceAdd, Nat.reduceLT, ownsX_z, ownsX_s, ownsL_z, ownsL_s, Bool.not_true, Bool.not_false, outsE, bop_add, bop_sub, cop_gt, cop_ge, cop_lt, cop_le, bi_int, bi_intb, bi_abs, bi_lenL, bi_lenT, List.any_cons, List.any_nil, Bool.or_false, Bool.false_or, bnd_non, bnd_v, s1, bl, emp]
  have nw : newE T (.or (.bi .list [(.slc (.v 0) (.c .non) (.v 1))]) (.lst [(.c (.int 0))])) = true := rfl
  have so := fun env => st_own T (callF T 28) (lkC (.lst (ns.map .int))) 2 env nw
  have kf : ∀ (ys : List Int) env, kFor T (callF T 28) (lkC (.lst (ns.map .int))) (.t [3, 4]) .enum cb ([.lst (ys.map .int)], env) = loopS (stepC (.lst (ns.map .int))) (enumD 0 (ys.map .int)) env := fun ys env => kFor_eq T (callF T 28) (lkC (.lst (ns.map .int))) (.t [3, 4]) (k := .enum) cb (ds := [.lst (ys.map .int)]) (xs := enumD 0 (ys.map .int)) env rfl rfl
  obtain ⟨cs1, e3, e4, e5, h1, h2, hl⟩ : ∃ cs1 e3 e4 e5, 1 ≤ List.length cs1 ∧ cs1.length ≤ 3 ∧ loopS (stepC (.lst (ns.map .int))) (enumD 0 (((ns.drop (min 3 ns.length)).take (min 63 ns.length - min 3 ns.length)).map .int)) (evC (.lst (ns.map .int)) cs0 .no .no .no) = .ok (.next, evC (.lst (ns.map .int)) cs1 e3 e4 e5) := by
    by_cases h : 3 < ns.length
    · obtain ⟨cs', a, b, c, g1, g2⟩ := cell_loop (sc := .lst (ns.map .int)) ((ns.drop (min 3 ns.length)).take (min 63 ns.length - min 3 ns.length)) 0 cs0 .no .no .no (hc2 h) (by decide) (by rw [List.length_take]; omega)
      exact ⟨cs', a, b, c, by omega, by omega, g2⟩
    · have e : (ns.drop (min 3 ns.length)).take (min 63 ns.length - min 3 ns.length) = [] := by
        rw [List.drop_of_length_le (by omega)]; simp
      rw [e]
      exact ⟨cs0, .no, .no, .no, hc0, hc1, rfl⟩
  rw [callF_eq 28 (F := f7) rfl rfl rfl]
  show ∃ cs o, _ ∧ _ ∧ retF false _ (evSs T (callF T 28) _ b7 _) = _
  rw [b7_eq]
  refine ⟨cs1, [.no, .no], h1, h2, ?_⟩
  have hor' : evE T (callF T 28) (lkC (.lst (ns.map .int))) (.or (.bi .list [(.slc (.v 0) (.c .non) (.v 1))]) (.lst [(.c (.int 0))])) [.fz (.lst (ns.map .int)), .fz (.int 3), .no, .no, .no, .no] = _ := hor [.no, .no, .no, .no]
  rw [evSs_c]
  have e1 : evS T (callF T 28) (lkC (.lst (ns.map .int))) (.own 2 (.or (.bi .list [(.slc (.v 0) (.c .non) (.v 1))]) (.lst [(.c (.int 0))]))) [.fz (.lst (ns.map .int)), .fz (.int 3), .no, .no, .no, .no] = .ok (.next, evC (.lst (ns.map .int)) cs0 .no .no .no) := by
    rw [so, hor', R.bind_ok, kOwn_lst, kSto_ok _ _ rfl (show 2 < 6 by decide)]
    rfl
  show retF false _ (thenS _ (evS T (callF T 28) (lkC (.lst (ns.map .int))) _ [.fz (.lst (ns.map .int)), .fz (.int 3), .no, .no, .no, .no])) = _
  rw [e1, thenS_next]
  simp -implicitDefEqProofs only [List.replicate, List.cons_append, List.nil_append, evSs_c, evSs_n, thenS_next, thenS_ret, thenS_brk, thenS_cont, thenS_ex, retF_ret, retF_ex, retF_next, R.bind_ok, R.bind_ex, R.of_some, getE_z, getE_s, getE_n, ev_c, ev_v, kVar_fz, kVar_ow, ev_g, kPure_some, kBool_some, ev_tup, ev_lst, ev_bin, kBin_eq, kBin2_eq, ev_cmp, kCmp_eq, kCmp2_eq, ev_chain, kChain_eq, kChain2_eq, kChain3_t, kChain3_f, ev_isN, ev_notN, ev_not, kNot_eq, ev_and, kAnd_bl, kAnd2_t, kAnd2_f, ev_or, kOr_bl, kOr_lst, kOr2_t, kOr2_f, ev_ife, kIfe_eq, kIfe2_t, kIfe2_f, ev_sub, kSub_eq, kSub2_int, ev_slc, kSlc_eq, kSlc2_eq, kSlc3_eq, ev_calln, ev_bi, kBi_1, kBi_2, ev_isi, kIsi_eq, ev_isx, kIsx_eq, ev_me, kMe2_1, es_n, es_c, kEs_eq, st_asg, st_ret, st_if, kIf_eq, kIf2_t, kIf2_f, st_for, st_unp, st_expr, kExpr_eq, st_rais, st_pass, st_try, kTry_ok, st_set, st_fz, kFz_fz, kFz_no, kOwn_lst, kAsg_eq, kRet_eq, kSto_ok, kIsN_eq, kSeq_ok, Nat.reduceLeDiff, beq_tf, beq_ft, beq_tt, beq_ff, isNon_int, isNon_str, isNon_lst, isNon_tup, isNon_exc, isNon_bl, isNon_non, isOwn_exc, kUnp_2, kUnp_3, res_int, res_bl, res_str, res_lst, res_tup, res_non, nst_c, nst_v, nst_ov, nst_g, nst_tup, nst_lst, nst_bin, nst_neg, nst_cmp, nst_chain, nst_isN, nst_notN, nst_not, nst_and, nst_or, nst_ife, nst_sub, nst_slc, nst_rev, nst_call, nst_call1, nst_bi, nst_isi, nst_isx, nst_me, nst_pop, nst_popAt, nst_comp, nst_bad, isOwn_int, isOwn_bl, isOwn_str, isOwn_non, isOwn_tup, isOwn_lst, isOwn_own, decide_true, decide_false, truth_bl, if_true, if_false, Bool.false_eq_true, lockOf_zo, lockOf_zf, lockOf_zn, lockOf_s, lockOf_n, List.length_cons, List.length_nil, List.set_cons_zero, List.set_cons_succ, Nat.reduceAdd, Nat.reduceLT, ownsX_z, ownsX_s, ownsL_z, ownsL_s, Bool.not_true, Bool.not_false, outsE, bop_add, bop_sub, cop_gt, cop_ge, cop_lt, cop_le, bi_int, bi_intb, bi_abs, bi_lenL, bi_lenT, List.any_cons, List.any_nil, Bool.or_false, Bool.false_or, bnd_v, bnd_non, s2, kf]
  have b63 : bndE (.c (.int 63)) (.int 63) = some (some 63) := rfl
  simp -implicitDefEqProofs only [List.replicate, List.cons_append, List.nil_append, evSs_c, evSs_n, thenS_next, thenS_ret, thenS_brk, thenS_cont, thenS_ex, retF_ret, retF_ex, retF_next, R.bind_ok, R.bind_ex, R.of_some, getE_z, getE_s, getE_n, ev_c, ev_v, kVar_fz, kVar_ow, ev_g, kPure_some, kBool_some, ev_tup, ev_lst, ev_bin, kBin_eq, kBin2_eq, ev_cmp, kCmp_eq, kCmp2_eq, ev_chain, kChain_eq, kChain2_eq, kChain3_t, kChain3_f, ev_isN, ev_notN, ev_not, kNot_eq, ev_and, kAnd_bl, kAnd2_t, kAnd2_f, ev_or, kOr_bl, kOr_lst, kOr2_t, kOr2_f, ev_ife, kIfe_eq, kIfe2_t, kIfe2_f, ev_sub, kSub_eq, kSub2_int, ev_slc, kSlc_eq, kSlc2_eq, kSlc3_eq, ev_calln, ev_bi, kBi_1, kBi_2, ev_isi, kIsi_eq, ev_isx, kIsx_eq, ev_me, kMe2_1, es_n, es_c, kEs_eq, st_asg, st_ret, st_if, kIf_eq, kIf2_t, kIf2_f, st_for, st_unp, st_expr, kExpr_eq, st_rais, st_pass, st_try, kTry_ok, st_set, st_fz, kFz_fz, kFz_no, kOwn_lst, kAsg_eq, kRet_eq, kSto_ok, kIsN_eq, kSeq_ok, Nat.reduceLeDiff, beq_tf, beq_ft, beq_tt, beq_ff, isNon_int, isNon_str, isNon_lst, isNon_tup, isNon_exc, isNon_bl, isNon_non, isOwn_exc, kUnp_2, kUnp_3, res_int, res_bl, res_str, res_lst, res_tup, res_non, nst_c, nst_v, nst_ov, nst_g, nst_tup, nst_lst, nst_bin, nst_neg, nst_cmp, nst_chain, nst_isN, nst_notN, nst_not, nst_and, nst_or, nst_ife, nst_sub, nst_slc, nst_rev, nst_call, nst_call1, nst_bi, nst_isi, nst_isx, nst_me, nst_pop, nst_popAt, nst_comp, nst_bad, isOwn_int, isOwn_bl, isOwn_str, isOwn_non, isOwn_tup, isOwn_lst, isOwn_own, decide_true, decide_false, truth_bl, if_true, if_false, Bool.false_eq_true, lockOf_zo, lockOf_zf, lockOf_zn, lockOf_s, lockOf_n, List.length_cons, List.length_nil, List.set_cons_zero, List.set_cons_succ, Nat.reduceAdd, Nat.reduceLT, ownsX_z, ownsX_s, ownsL_z, ownsL_s, Bool.not_true, Bool.not_false, outsE, bop_add, bop_sub, cop_gt, cop_ge, cop_lt, cop_le, bi_int, bi_intb, bi_abs, bi_lenL, bi_lenT, List.any_cons, List.any_nil, Bool.or_false, Bool.false_or, bnd_v, bnd_non, b63, s2, kf, hl, kFz_ow]
theorem plain_law (ns : List Int) (hn : ns.length ≤ 63) : ∃ outs, callF T 30 16 [.fz (.lst (ns.map .int))] = .ok (.bl true, outs) := by
  obtain ⟨cs, o, h1, h2, hc⟩ := cells_ok hn
  have c7 := fun env => callD_fz (C := callF T 29) (f := 7) (ds := [.lst (ns.map .int), .int 3]) rfl hc env
  have cm : evE T (callF T 29) (lockOf [.fz (.lst (ns.map .int))]) (.comp [2] (.n 2) .rng [(.bi .len [(.v 1)])] [] true (.call1 15 (.call 5 [(.v 1), (.v 2)] []))) [.fz (.lst (ns.map .int)), .fz (.lst (cs.map .int)), .no] = .ok (.lst ((rangeD 0 cs.length).map fun _ => .bl true), [.fz (.lst (ns.map .int)), .fz (.lst (cs.map .int)), .no]) := by
    have hr : itD .rng [.int (((cs.map D.int).length : Nat) : Int)] = some (rangeD 0 cs.length) := by
      show (if inRange ((((cs.map D.int).length : Nat)) : Int) then some (rangeD 0 ((((cs.map D.int).length : Nat)) : Int).toNat) else none) = _
      rw [List.length_map, if_pos (by simp [inRange]; omega)]
      rfl
    rw [ev_comp1 (ds := [.int (((cs.map D.int).length : Nat) : Int)]) (xs := rangeD 0 cs.length) (t := fun _ => true) (g := fun _ => .bl true) ?_ rfl hr (show 2 < 3 by decide) rfl rfl ?_ ?_]
    · rw [filter_tt]
    · simp -implicitDefEqProofs only [List.replicate, List.cons_append, List.nil_append, evSs_c, evSs_n, thenS_next, thenS_ret, thenS_brk, thenS_cont, thenS_ex, retF_ret, retF_ex, retF_next, R.bind_ok, R.bind_ex, R.of_some, getE_z, getE_s, getE_n, ev_c, ev_v, kVar_fz, kVar_ow, ev_g, kPure_some, kBool_some, ev_tup, ev_lst, ev_bin, kBin_eq, kBin2_eq, ev_cmp, kCmp_eq, kCmp2_eq, ev_chain, kChain_eq, kChain2_eq, kChain3_t, kChain3_f, ev_isN, ev_notN, ev_not, kNot_eq, ev_and, kAnd_bl, kAnd2_t, kAnd2_f, ev_or, kOr_bl, kOr_lst, kOr2_t, kOr2_f, ev_ife, kIfe_eq, kIfe2_t, kIfe2_f, ev_sub, kSub_eq, kSub2_int, ev_slc, kSlc_eq, kSlc2_eq, kSlc3_eq, ev_calln, ev_bi, kBi_1, kBi_2, ev_isi, kIsi_eq, ev_isx, kIsx_eq, ev_me, kMe2_1, es_n, es_c, kEs_eq, st_asg, st_ret, st_if, kIf_eq, kIf2_t, kIf2_f, st_for, st_unp, st_expr, kExpr_eq, st_rais, st_pass, st_try, kTry_ok, st_set, st_fz, kFz_fz, kFz_no, kOwn_lst, kAsg_eq, kRet_eq, kSto_ok, kIsN_eq, kSeq_ok, Nat.reduceLeDiff, beq_tf, beq_ft, beq_tt, beq_ff, isNon_int, isNon_str, isNon_lst, isNon_tup, isNon_exc, isNon_bl, isNon_non, isOwn_exc, kUnp_2, kUnp_3, res_int, res_bl, res_str, res_lst, res_tup, res_non, nst_c, nst_v, nst_ov, nst_g, nst_tup, nst_lst, nst_bin, nst_neg, nst_cmp, nst_chain, nst_isN, nst_notN, nst_not, nst_and, nst_or, nst_ife, nst_sub, nst_slc, nst_rev, nst_call, nst_call1, nst_bi, nst_isi, nst_isx, nst_me, nst_pop, nst_popAt, nst_comp, nst_bad, isOwn_int, isOwn_bl, isOwn_str, isOwn_non, isOwn_tup, isOwn_lst, isOwn_own, decide_true, decide_false, truth_bl, if_true, if_false, Bool.false_eq_true, lockOf_zo, lockOf_zf, lockOf_zn, lockOf_s, lockOf_n, List.length_cons, List.length_nil, List.set_cons_zero, List.set_cons_succ, Nat.reduceAdd, Nat.reduceLT, ownsX_z, ownsX_s, ownsL_z, ownsL_s, Bool.not_true, Bool.not_false, outsE, bop_add, bop_sub, cop_gt, cop_ge, cop_lt, cop_le, bi_int, bi_intb, bi_abs, bi_lenL, bi_lenT, List.any_cons, List.any_nil, Bool.or_false, Bool.false_or]
    · intro d hd
      obtain ⟨j, j0, j1, rfl⟩ := mem_rangeD hd
      obtain ⟨u, hu, ho, hb⟩ := box_ok (cs := cs) (j := j) (by omega) (by omega) h2
      obtain ⟨o2, hr2⟩ := right_ok hu
      refine ⟨rfl, evTs_nil .., fun _ => ⟨?_, rfl⟩⟩
      have c5 := fun env => callD_fz (C := callF T 29) (f := 5) (ds := [.lst (cs.map .int), .int j]) rfl hb env
      rw [ev_call1 (F := f15) rfl (d := u) (env' := ([.fz (.lst (ns.map .int)), .fz (.lst (cs.map .int)), .no] : Env).set 2 (.fz (.int j))) ?_ ho rfl, hr2]
      · rfl
      · simp -implicitDefEqProofs only [List.replicate, List.cons_append, List.nil_append, evSs_c, evSs_n, thenS_next, thenS_ret, thenS_brk, thenS_cont, thenS_ex, retF_ret, retF_ex, retF_next, R.bind_ok, R.bind_ex, R.of_some, getE_z, getE_s, getE_n, ev_c, ev_v, kVar_fz, kVar_ow, ev_g, kPure_some, kBool_some, ev_tup, ev_lst, ev_bin, kBin_eq, kBin2_eq, ev_cmp, kCmp_eq, kCmp2_eq, ev_chain, kChain_eq, kChain2_eq, kChain3_t, kChain3_f, ev_isN, ev_notN, ev_not, kNot_eq, ev_and, kAnd_bl, kAnd2_t, kAnd2_f, ev_or, kOr_bl, kOr_lst, kOr2_t, kOr2_f, ev_ife, kIfe_eq, kIfe2_t, kIfe2_f, ev_sub, kSub_eq, kSub2_int, ev_slc, kSlc_eq, kSlc2_eq, kSlc3_eq, ev_calln, ev_bi, kBi_1, kBi_2, ev_isi, kIsi_eq, ev_isx, kIsx_eq, ev_me, kMe2_1, es_n, es_c, kEs_eq, st_asg, st_ret, st_if, kIf_eq, kIf2_t, kIf2_f, st_for, st_unp, st_expr, kExpr_eq, st_rais, st_pass, st_try, kTry_ok, st_set, st_fz, kFz_fz, kFz_no, kOwn_lst, kAsg_eq, kRet_eq, kSto_ok, kIsN_eq, kSeq_ok, Nat.reduceLeDiff, beq_tf, beq_ft, beq_tt, beq_ff, isNon_int, isNon_str, isNon_lst, isNon_tup, isNon_exc, isNon_bl, isNon_non, isOwn_exc, kUnp_2, kUnp_3, res_int, res_bl, res_str, res_lst, res_tup, res_non, nst_c, nst_v, nst_ov, nst_g, nst_tup, nst_lst, nst_bin, nst_neg, nst_cmp, nst_chain, nst_isN, nst_notN, nst_not, nst_and, nst_or, nst_ife, nst_sub, nst_slc, nst_rev, nst_call, nst_call1, nst_bi, nst_isi, nst_isx, nst_me, nst_pop, nst_popAt, nst_comp, nst_bad, isOwn_int, isOwn_bl, isOwn_str, isOwn_non, isOwn_tup, isOwn_lst, isOwn_own, decide_true, decide_false, truth_bl, if_true, if_false, Bool.false_eq_true, lockOf_zo, lockOf_zf, lockOf_zn, lockOf_s, lockOf_n, List.length_cons, List.length_nil, List.set_cons_zero, List.set_cons_succ, Nat.reduceAdd, Nat.reduceLT, ownsX_z, ownsX_s, ownsL_z, ownsL_s, Bool.not_true, Bool.not_false, outsE, bop_add, bop_sub, cop_gt, cop_ge, cop_lt, cop_le, bi_int, bi_intb, bi_abs, bi_lenL, bi_lenT, List.any_cons, List.any_nil, Bool.or_false, Bool.false_or, kCall_2 T (callF T 29) (f := 5) (F := f5) rfl rfl, c5]
    · rw [rangeD_len]; exact Nat.le_trans h2 (by decide)
  rw [callF_eq 29 (F := f16) rfl rfl rfl]
  refine ⟨[.no], ?_⟩
  simp -implicitDefEqProofs only [List.replicate, List.cons_append, List.nil_append, evSs_c, evSs_n, thenS_next, thenS_ret, thenS_brk, thenS_cont, thenS_ex, retF_ret, retF_ex, retF_next, R.bind_ok, R.bind_ex, R.of_some, getE_z, getE_s, getE_n, ev_c, ev_v, kVar_fz, kVar_ow, ev_g, kPure_some, kBool_some, ev_tup, ev_lst, ev_bin, kBin_eq, kBin2_eq, ev_cmp, kCmp_eq, kCmp2_eq, ev_chain, kChain_eq, kChain2_eq, kChain3_t, kChain3_f, ev_isN, ev_notN, ev_not, kNot_eq, ev_and, kAnd_bl, kAnd2_t, kAnd2_f, ev_or, kOr_bl, kOr_lst, kOr2_t, kOr2_f, ev_ife, kIfe_eq, kIfe2_t, kIfe2_f, ev_sub, kSub_eq, kSub2_int, ev_slc, kSlc_eq, kSlc2_eq, kSlc3_eq, ev_calln, ev_bi, kBi_1, kBi_2, ev_isi, kIsi_eq, ev_isx, kIsx_eq, ev_me, kMe2_1, es_n, es_c, kEs_eq, st_asg, st_ret, st_if, kIf_eq, kIf2_t, kIf2_f, st_for, st_unp, st_expr, kExpr_eq, st_rais, st_pass, st_try, kTry_ok, st_set, st_fz, kFz_fz, kFz_no, kOwn_lst, kAsg_eq, kRet_eq, kSto_ok, kIsN_eq, kSeq_ok, Nat.reduceLeDiff, beq_tf, beq_ft, beq_tt, beq_ff, isNon_int, isNon_str, isNon_lst, isNon_tup, isNon_exc, isNon_bl, isNon_non, isOwn_exc, kUnp_2, kUnp_3, res_int, res_bl, res_str, res_lst, res_tup, res_non, nst_c, nst_v, nst_ov, nst_g, nst_tup, nst_lst, nst_bin, nst_neg, nst_cmp, nst_chain, nst_isN, nst_notN, nst_not, nst_and, nst_or, nst_ife, nst_sub, nst_slc, nst_rev, nst_call, nst_call1, nst_bi, nst_isi, nst_isx, nst_me, nst_pop, nst_popAt, nst_comp, nst_bad, isOwn_int, isOwn_bl, isOwn_str, isOwn_non, isOwn_tup, isOwn_lst, isOwn_own, decide_true, decide_false, truth_bl, if_true, if_false, Bool.false_eq_true, lockOf_zo, lockOf_zf, lockOf_zn, lockOf_s, lockOf_n, List.length_cons, List.length_nil, List.set_cons_zero, List.set_cons_succ, Nat.reduceAdd, Nat.reduceLT, ownsX_z, ownsX_s, ownsL_z, ownsL_s, Bool.not_true, Bool.not_false, outsE, bop_add, bop_sub, cop_gt, cop_ge, cop_lt, cop_le, bi_int, bi_intb, bi_abs, bi_lenL, bi_lenT, List.any_cons, List.any_nil, Bool.or_false, Bool.false_or, f16, b16, kCall_2 T (callF T 29) (f := 7) (F := f7) rfl rfl, c7, cm, all_tt]
end K90

set_option linter.all false
set_option Elab.async false
set_option maxRecDepth 100000
/-! H90: k90's defs, classes, constants in the written part (own work). -/
namespace K90
open PySem L2 IV PyProof.Rows

theorem hc : rows.all (chkRow ck 60) = true := by
  simp only [rows, List.all_cons, List.all_nil, t0, t1, t2, t3, t4, t5, t6, t7, t8, t9, t10, t11, t12, t13, t14, t15, t16, Bool.and_true]
/-- one parameter, given by its name or not -/
theorem arr1 {ws zs us : List Value} (h : arr 1 us [0] ws = some zs) (h1 : us.length = 0) (h2 : ws.length = 1) : zs = ws ∧ us = [] := by
  obtain rfl : us = [] := List.length_eq_zero_iff.mp h1
  match ws, h2 with
  | [w], _ => exact ⟨(Option.some.inj h).symm, rfl⟩
theorem rb1 {r : Rw} {x : Str} (hps : r.ps = [x]) (hnp : r.Fn.np = 1) (hk : ∀ a ∈ r.Fn.kws, a = (0, [0])) (h1 : ∀ (kV doc pm : Value) (an : Option Addr) (cdv ct u : Value), bindArgs (PySem.W.fnOf r.x r.x (defArgs r.st) (defBody r.st) (defScope r.st) .none kV doc pm an cdv ct) ⟨[u], []⟩ = pure [(x, u)])
    (h2 : ∀ (kV doc pm : Value) (an : Option Addr) (cdv ct u : Value), bindArgs (PySem.W.fnOf r.x r.x (defArgs r.st) (defBody r.st) (defScope r.st) .none kV doc pm an cdv ct) ⟨[], [(x, u)]⟩ = pure [(x, u)]) : RowB r := by
  refine ⟨fun kV doc pm an cdv ct us hl => ?_, fun n ks hk' kV doc pm an cdv ct us ws zs l1 l2 ha => ?_⟩
  · rw [hps] at hl ⊢
    match us, hl with
    | [u], _ => exact h1 ..
  · have e := hk _ hk'
    cases e
    rw [hnp] at ha
    obtain ⟨rfl, rfl⟩ := arr1 ha l1 l2
    rw [hps]
    match zs, l2 with
    | [u], _ => exact h2 ..
theorem rb0 {r : Rw} (hk : r.Fn.kws = []) (h1 : ∀ (kV doc pm : Value) (an : Option Addr) (cdv ct : Value) (us : List Value), us.length = r.ps.length → bindArgs (PySem.W.fnOf r.x r.x (defArgs r.st) (defBody r.st) (defScope r.st) .none kV doc pm an cdv ct) ⟨us, []⟩ = pure (r.ps.zip us)) : RowB r :=
  ⟨h1, fun n ks hk' => by rw [hk] at hk'; cases hk'⟩
theorem hB : ∀ r ∈ rows, RowB r := by
  intro r hr
  simp only [rows, List.mem_cons, List.not_mem_nil, or_false] at hr
  rcases hr with rfl | rfl | rfl | rfl | rfl | rfl | rfl | rfl | rfl | rfl | rfl | rfl | rfl | rfl | rfl | rfl | rfl
  · exact rb0 rfl fun _ _ _ _ _ _ us hl => match us, hl with | [_], _ => rfl
  · exact rb0 rfl fun _ _ _ _ _ _ us hl => match us, hl with | [_], _ => rfl
  · exact rb1 (x := "crowd") rfl rfl (by decide) (fun _ _ _ _ _ _ _ => rfl) (fun _ _ _ _ _ _ _ => rfl)
  · exact rb0 rfl fun _ _ _ _ _ _ us hl => match us, hl with | [_], _ => rfl
  · exact rb1 (x := "text") rfl rfl (by decide) (fun _ _ _ _ _ _ _ => rfl) (fun _ _ _ _ _ _ _ => rfl)
  · exact rb0 rfl fun _ _ _ _ _ _ us hl => match us, hl with | [_, _], _ => rfl
  · exact rb0 rfl fun _ _ _ _ _ _ us hl => match us, hl with | [_, _], _ => rfl
  · exact rb0 rfl fun _ _ _ _ _ _ us hl => match us, hl with | [_, _], _ => rfl
  · exact rb0 rfl fun _ _ _ _ _ _ us hl => match us, hl with | [_, _], _ => rfl
  · exact rb0 rfl fun _ _ _ _ _ _ us hl => match us, hl with | [_], _ => rfl
  · exact rb0 rfl fun _ _ _ _ _ _ us hl => match us, hl with | [_, _], _ => rfl
  · exact rb0 rfl fun _ _ _ _ _ _ us hl => match us, hl with | [_, _, _], _ => rfl
  · exact rb0 rfl fun _ _ _ _ _ _ us hl => match us, hl with | [_], _ => rfl
  · exact rb0 rfl fun _ _ _ _ _ _ us hl => match us, hl with | [], _ => rfl
  · exact rb0 rfl fun _ _ _ _ _ _ us hl => match us, hl with | [_], _ => rfl
  · exact rb0 rfl fun _ _ _ _ _ _ us hl => match us, hl with | [_], _ => rfl
  · exact rb0 rfl fun _ _ _ _ _ _ us hl => match us, hl with | [_], _ => rfl

/-! ### the written part -/
theorem rowK_mk {K : PySem.W.Frag} {r : Rw} {f : Addr} {oc : Value} {od : Option Addr} {kV dc pm : Value} {an : Option Addr} {cd ct : Value} {sl : Array (Option Value)}
    (a : PySem.W.nsIn K mainGlobals r.x = some (some (.ref f))) (l : K.lookup f = some ⟨oc, od, .func (PySem.W.fnOf r.x r.x (defArgs r.st) (defBody r.st) (defScope r.st) .none kV dc pm an cd ct), sl⟩) (c : PySem.W.codeIn K cd r.x = true) (k : PySem.W.keepIn K (.ref f) = true) : RowK K r :=
  ⟨f, oc, od, kV, dc, pm, an, cd, ct, sl, a, l, c, k⟩
theorem exm_ty {K : PySem.W.Frag} {C : Addr} {T : String} {b : Bool} (h0 : PySem.W.subIn K (.type T) (.type "BaseException") = some true) (h1 : PySem.W.kitMeta T = true) (h2 : PySem.W.subIn K (.ref C) (.type T) = some b) : PySem.W.exmOne K (.ref C) (.type T) = some b := by
  show (if (PySem.W.subIn K (.type T) (.type "BaseException") == some true) = true then (if PySem.W.kitMeta T = true then PySem.W.subIn K (.ref C) (.type T) else none) else none) = some b
  rw [h0, h1, h2]
  rfl
theorem kit_tyr {K : PySem.W.Frag} {C : Addr} {T : String} {b : Bool} (h1 : PySem.W.kitMeta T = true) (h2 : PySem.W.subIn K (.ref C) (.type T) = some b) : PySem.W.kitOne K (.ref C) (.type T) = some b := by
  unfold PySem.W.kitOne
  rw [if_neg (by simp)]
  show (if PySem.W.kitMeta T = true then PySem.W.subIn K (.ref C) (.type T) else none) = some b
  rw [h1, h2]
  rfl
theorem kit_self {K : PySem.W.Frag} {C : Addr} : PySem.W.kitOne K (.ref C) (.ref C) = some true := by
  unfold PySem.W.kitOne
  rw [if_pos (beq_self_eq_true _)]
theorem exm_self {K : PySem.W.Frag} {C : Addr} (h1 : PySem.W.subIn K (.ref C) (.type "BaseException") = some true) (h2 : (PySem.W.clsIn K C).isSome = true) (h3 : PySem.W.typeIn K (.ref C) = some (.type "type")) (h4 : PySem.W.subIn K (.ref C) (.ref C) = some true) : PySem.W.exmOne K (.ref C) (.ref C) = some true := by
  show (if (PySem.W.subIn K (.ref C) (.type "BaseException") == some true) = true then (if ((PySem.W.clsIn K C).isSome && PySem.W.typeIn K (.ref C) == some (.type "type")) = true then PySem.W.subIn K (.ref C) (.ref C) else none) else none) = some true
  rw [h1, h2, h3, h4]
  rfl
def cvD (C : Addr) : Nat → Option Value
  | 0 => some (.ref C)
  | 1 => some (.type "ValueError")
  | _ => none
def clD (C : Addr) : Nat → Option Addr
  | 0 => some C
  | _ => none
/-- all together -/
theorem all_mk {P : Program} {w : World} {K : PySem.W.Frag} {h : Heap} {mg : Str → Option Value} {fa C : Addr} (X : K.In h) (G : h.Ns mainGlobals mg) (hfa : mg "law" = some (.ref fa))
    (hK : ∀ r ∈ rows, RowK K r) (aC : PySem.W.nsIn K mainGlobals "BadText" = some (some (.ref C))) (kC : PySem.W.keepIn K (.ref C) = true) (x1 : PySem.W.isClsIn K C = true)
    (x2 : PySem.W.findIn K (.ref C) "__getattribute__" = some (some (.builtin "BaseException.__getattribute__"))) (x3 : PySem.W.findIn K (.ref C) "__getattr__" = some none)
    (x4 : PySem.W.subIn K (.ref C) (.type "BaseException") = some true) (x5 : PySem.W.findIn K (.ref C) "__class__" = some (some (.builtin "object.__class__"))) (x6 : PySem.W.specialIn K (.builtin "object.__class__") "__get__" = some (some (.builtin "getset_descriptor.__get__")))
    (x7 : PySem.W.takesIn K (.builtin "object.__class__") = some true) (x8 : PySem.W.mroIn K C (.type "object") = some true) (x9 : PySem.W.typeIn K (.ref C) = some (.type "type"))
    (y1 : PySem.W.subIn K (.ref C) (.type "ValueError") = some true) (y2 : PySem.W.subIn K (.ref C) (.ref C) = some true) (y3 : PySem.W.subIn K (.type "ValueError") (.type "BaseException") = some true)
    (y4 : PySem.W.excIn K C [.type "ValueError", .type "Exception", .type "BaseException", .type "object"] "ValueError.__new__" = true)
    (z : ∀ y ∈ bnames, PySem.W.nsIn K mainGlobals y = some none) (zV : PySem.W.nsIn K mainGlobals "ValueError" = some none)
    {t0 t1 t2 t3 t4 : Tok} (g0 : PySem.W.nsIn K mainGlobals "LETTERS" = some (some (.str "abcdefghijklmnopqrstuvwxyz" t0))) (g1 : PySem.W.nsIn K mainGlobals "DIGITS" = some (some (.str "0123456789" t1))) (g2 : PySem.W.nsIn K mainGlobals "EMPTY" = some (some (.str "-" t2)))
    (g3 : PySem.W.nsIn K mainGlobals "COMMA" = some (some (.str ", " t3))) (g4 : PySem.W.nsIn K mainGlobals "BLANK" = some (some (.str " " t4))) :
    ∃ fd : FuncData, (∀ (s : Shared) (u : Value), BindsTo s fd ⟨[u], []⟩ [("_law_script", u)]) ∧ ∀ base : Heap, K.In base → base.Ns mainGlobals mg → FnOk P w K mg base (L2.CX P w) 30 fa fd ["_law_script"] (spL K) := by
  have xf : XcF K C := ⟨x1, x2, ⟨_, x3⟩, x4, x5, x6, x7, x8⟩
  have mgV : mg "ValueError" = none := PySem.W.mg_none_of X G zV
  refine law_glue (T := T) (c := ck) (cl := clD C) (cv := cvD C) (rows := rows) (n := 60) (f := 16) (r := r16) X G hfa ?_ ?_ (fun y hy => PySem.W.mg_none_of X G (z y hy)) (fun base => ⟨?_, ?_, ?_⟩) (fun base => ?_) rfl rfl rfl hc hB hK rfl rfl rfl rfl rfl plain_law
  · funext f; exact (rows_fn f).symm
  · intro i hi
    match i, hi with
    | 0, _ => exact ⟨_, rfl⟩
    | 1, _ => exact ⟨_, rfl⟩
    | n + 2, hi => exact absurd hi (by simp [ck])
  · intro c c' C' b h1 h2
    match c, c', h1, h2 with
    | 0, 0, h1, h2 =>
      cases h1; cases h2
      exact ⟨xf, _, rfl, kit_self, exm_self x4 x1 x9 y2⟩
    | 0, 1, h1, h2 =>
      cases h1; cases h2
      exact ⟨xf, _, rfl, kit_tyr (by decide +kernel) y1, exm_ty y3 (by decide +kernel) y1⟩
    | 0, n + 2, _, h2 => cases h2
    | n + 1, _, h1, _ => cases h1
  · intro c v hv
    match c, hv with
    | 0, hv =>
      cases hv
      exact ⟨⟨show (ck.cnm 0 == ("__debug__" : Str)) = false by decide +kernel, .inl (PySem.W.mg_of X G aC)⟩, .inr ⟨_, rfl⟩⟩
    | 1, hv =>
      cases hv
      exact ⟨⟨show (ck.cnm 1 == ("__debug__" : Str)) = false by decide +kernel, .inr ⟨mgV, show bootBuiltins (ck.cnm 1) = some (.type "ValueError") by decide +kernel, show ck.cnm 1 ≠ "__name__" by decide +kernel⟩⟩, .inl ⟨_, rfl⟩⟩
    | n + 2, hv => cases hv
  · intro c hcr
    match c, hcr with
    | 0, _ => exact ⟨C, _, _, _, _, rfl, PySem.W.mg_of X G aC, show (ck.cnm 0 == ("__debug__" : Str)) = false by decide +kernel, kC, F.excBase_ValueError, y4, x4, x9⟩
    | n + 1, hcr => exact absurd hcr (by simp [mdl, ck])
  · intro x d hd
    match x, hd with
    | 0, hd => cases hd; exact ⟨show (ck.gnm 0 == ("__debug__" : Str)) = false by decide +kernel, rfl, _, V.str "abcdefghijklmnopqrstuvwxyz", PySem.W.mg_of X G g0, ⟨_, rfl⟩, fun _ => .str _⟩
    | 1, hd => cases hd; exact ⟨show (ck.gnm 1 == ("__debug__" : Str)) = false by decide +kernel, rfl, _, V.str "0123456789", PySem.W.mg_of X G g1, ⟨_, rfl⟩, fun _ => .str _⟩
    | 2, hd => cases hd; exact ⟨show (ck.gnm 2 == ("__debug__" : Str)) = false by decide +kernel, rfl, _, V.str "-", PySem.W.mg_of X G g2, ⟨_, rfl⟩, fun _ => .str _⟩
    | 3, hd => cases hd; exact ⟨show (ck.gnm 3 == ("__debug__" : Str)) = false by decide +kernel, rfl, _, V.str ", ", PySem.W.mg_of X G g3, ⟨_, rfl⟩, fun _ => .str _⟩
    | 4, hd => cases hd; exact ⟨show (ck.gnm 4 == ("__debug__" : Str)) = false by decide +kernel, rfl, _, V.str " ", PySem.W.mg_of X G g4, ⟨_, rfl⟩, fun _ => .str _⟩
    | n + 5, hd => cases hd
end K90

set_option linter.all false
set_option Elab.async false
set_option maxRecDepth 100000
open PySem PySem.W PyProof.Rows in
set_option maxRecDepth 100000 in
set_option maxHeartbeats 0 in
theorem PySem.Challenge.cw_onehostmore_k90_crowds_as_texts_holds : PySem.Challenge.rw_onehostmore_k90_crowds_as_texts.Holds := by
  w_on; o_law; k_head; (case hw => w_witness2)
  k_fill
  refine IV.walk_law (l := PySem.Challenge.rw_onehostmore_k90_crowds_as_texts) (k := 30) (x := "_law_script") rfl rfl ⟨rfl, by decide, by decide⟩ (fun w h Y => PySem.W.kIn_of Y) ?F
  case F =>
    intro w mg fa h KX G hmg
    refine' K90.all_mk KX G hmg ?hK ?aC ?kC ?x1 ?x2 ?x3 ?x4 ?x5 ?x6 ?x7 ?x8 ?x9 ?y1 ?y2 ?y3 ?y4 ?z ?zV ?qq0 ?qq1 ?qq2 ?qq3 ?qq4
    (case aC => k_is)
    (case kC => k_is)
    (case x1 => k_is)
    (case x2 => k_is)
    (case x3 => k_is)
    (case x4 => k_is)
    (case x5 => k_is)
    (case x6 => k_is)
    (case x7 => k_is)
    (case x8 => k_is)
    (case x9 => k_is)
    (case y1 => k_is)
    (case y2 => first | rfl | k_is)
    (case y3 => k_is)
    (case y4 => k_exc)
    (case zV => k_is)
    (case qq0 => k_is)
    (case qq1 => k_is)
    (case qq2 => k_is)
    (case qq3 => k_is)
    (case qq4 => k_is)
    case z =>
      intro y hy
      simp only [IV.bnames, List.mem_cons, List.not_mem_nil, or_false] at hy
      rcases hy with rfl | rfl | rfl | rfl | rfl | rfl | rfl | rfl | rfl | rfl | rfl | rfl | rfl | rfl | rfl | rfl | rfl | rfl | rfl <;> k_is
    case hK =>
      intro r hr
      simp only [K90.rows, List.mem_cons, List.not_mem_nil, or_false] at hr
      rcases hr with rfl | rfl | rfl | rfl | rfl | rfl | rfl | rfl | rfl | rfl | rfl | rfl | rfl | rfl | rfl | rfl | rfl
      · refine' K90.rowK_mk ?a ?l ?c ?k
        (case a => k_is); (case l => k_is); (case c => k_is); (case k => k_is)
      · refine' K90.rowK_mk ?a ?l ?c ?k
        (case a => k_is); (case l => k_is); (case c => k_is); (case k => k_is)
      · refine' K90.rowK_mk ?a ?l ?c ?k
        (case a => k_is); (case l => k_is); (case c => k_is); (case k => k_is)
      · refine' K90.rowK_mk ?a ?l ?c ?k
        (case a => k_is); (case l => k_is); (case c => k_is); (case k => k_is)
      · refine' K90.rowK_mk ?a ?l ?c ?k
        (case a => k_is); (case l => k_is); (case c => k_is); (case k => k_is)
      · refine' K90.rowK_mk ?a ?l ?c ?k
        (case a => k_is); (case l => k_is); (case c => k_is); (case k => k_is)
      · refine' K90.rowK_mk ?a ?l ?c ?k
        (case a => k_is); (case l => k_is); (case c => k_is); (case k => k_is)
      · refine' K90.rowK_mk ?a ?l ?c ?k
        (case a => k_is); (case l => k_is); (case c => k_is); (case k => k_is)
      · refine' K90.rowK_mk ?a ?l ?c ?k
        (case a => k_is); (case l => k_is); (case c => k_is); (case k => k_is)
      · refine' K90.rowK_mk ?a ?l ?c ?k
        (case a => k_is); (case l => k_is); (case c => k_is); (case k => k_is)
      · refine' K90.rowK_mk ?a ?l ?c ?k
        (case a => k_is); (case l => k_is); (case c => k_is); (case k => k_is)
      · refine' K90.rowK_mk ?a ?l ?c ?k
        (case a => k_is); (case l => k_is); (case c => k_is); (case k => k_is)
      · refine' K90.rowK_mk ?a ?l ?c ?k
        (case a => k_is); (case l => k_is); (case c => k_is); (case k => k_is)
      · refine' K90.rowK_mk ?a ?l ?c ?k
        (case a => k_is); (case l => k_is); (case c => k_is); (case k => k_is)
      · refine' K90.rowK_mk ?a ?l ?c ?k
        (case a => k_is); (case l => k_is); (case c => k_is); (case k => k_is)
      · refine' K90.rowK_mk ?a ?l ?c ?k
        (case a => k_is); (case l => k_is); (case c => k_is); (case k => k_is)
      · refine' K90.rowK_mk ?a ?l ?c ?k
        (case a => k_is); (case l => k_is); (case c => k_is); (case k => k_is)

