import PyProof.Rows.All
import Wide.All
import OpenK.AllK
import Wide.FinOn
import HandS.ForMost
import HandS.Text
import HandS.StrMore
import HandS.Exc
import HandS.ExcOwn
import HandS.WordsExc
import HandS.TupAny
import HandS.Wide
import HandS.Deep
import HandS.TupLe
import HandS.Star
import HandS.Style
import HandS.Iter
import HandS.Zip
import HandS.Walk
import HandS.Comp
import HandS.DictComp
import HandS.ClsMeth
import HandS.Property
import HandS.SlotsOwn
import KE.GoesMore
import HandS.IsInst
import HandS.Small
import HandS.More
import KE.KFmtOwn
import KE.KCallOwn
import HandS.FStr
import HandS.RaiseMore
import KE.KRevSl
import HandS.Set
import HandS.SetFor
import HandS.Strs
import HandS.Conv
import HandS.EndBits
import KE.KStateDown
import Lean
import HandS.Head0
import HandS.Head1
import HandS.Head2
import HandS.HeadHook1
import HandS.HeadHook2
import HandS.HeadHook3
import PySem.Challenge.RW_fourways_k04_whole_demands_joined
set_option Elab.async false
set_option linter.all false
set_option maxRecDepth 100000
/-! E0: a plain evaluator of the part of Python that these laws use: values without addresses, a store of what changes. -/
namespace Ev
open PySem

/-- a value, whole: what never changes is held by value, what changes lies in the store -/
inductive PV where
  | non
  | bl (b : Bool)
  | int (i : Int)
  | str (x : List Nat)
  | tup (xs : List PV)
  | lst (xs : List PV)
  | dct (ks : List (List Nat)) (vs : List PV)
  | ins (c : Nat) (vs : List PV)
  | cell (i : Nat)
  | obj (n : Nat)
  | ex (c : Nat) (vs : List PV)

/-- what changes -/
inductive Cel where
  | lst (xs : List PV)
  | dct (ks : List (List Nat)) (vs : List PV)
  | ins (c : Nat) (vs : List PV)
  | scr (xs : List PV)
  | dead

abbrev Store := List Cel
abbrev Env := List (Option PV)

inductive R (α : Type) where
  | ok (a : α) (S : Store)
  | exc (e : PV) (S : Store)
  | bad

def R.bind {α β : Type} (r : R α) (f : α → Store → R β) : R β :=
  match r with
  | .ok a S => f a S
  | .exc e S => .exc e S
  | .bad => .bad
/-- where nothing may be raised -/
def R.bindB {α β : Type} (r : R α) (f : α → Store → R β) : R β :=
  match r with
  | .ok a S => f a S
  | .exc _ _ => .bad
  | .bad => .bad
def opt {α : Type} (o : Option α) (S : Store) : R α := match o with
  | some a => .ok a S
  | none => .bad
theorem bind_ok {α β : Type} (a : α) (S : Store) (f : α → Store → R β) : (R.ok a S).bind f = f a S := rfl
theorem bind_bad {α β : Type} (f : α → Store → R β) : (R.bad).bind f = .bad := rfl
theorem bind_exc {α β : Type} (e : PV) (S : Store) (f : α → Store → R β) : (R.exc e S).bind f = .exc e S := rfl
theorem opt_some {α : Type} (a : α) (S : Store) : opt (some a) S = .ok a S := rfl
theorem opt_none {α : Type} (S : Store) : opt (none : Option α) S = .bad := rfl

inductive Fl where
  | next (ρ : Env)
  | ret (v : PV)
  | brk (ρ : Env)
  | cont (ρ : Env)
  | exc (e : PV) (ρ : Env)

inductive BOp where
  | add | sub | mul | fdiv | mod | pow | shl | bor | band
  deriving DecidableEq
inductive COp where
  | eq | ne | lt | le | gt | ge | isin | notin | is_ | isnot
  deriving DecidableEq
inductive Ty where
  | int | str | bool | tuple | list | own (c : Nat)
  deriving DecidableEq
inductive Blt where
  | len | abs | max | min | int | str | bool | tuple | list | sorted | sum | all | any | divmod | repr | sortedset | listc
  | isi (ts : List Ty)
inductive Mth where
  | join | split | count | index | startswith | replace | partition | get | upper | bitlen
  | append | extend | pop

/-- within a statement: what is raised goes on with the names as they are -/
def R.bindS {α : Type} (r : R α) (ρ : Env) (f : α → Store → R Fl) : R Fl :=
  match r with
  | .ok a S => f a S
  | .exc e S => .ok (.exc e ρ) S
  | .bad => .bad
/-- the language -/
inductive C where
  | v (i : Nat)
  | k (p : PV)
  | g (n : Nat)
  | bin (o : BOp) (a b : C)
  | neg (a : C)
  | cmp (o : COp) (a b : C)
  | chain (o p : COp) (a b c : C)
  | and (a b : C)
  | or (a b : C)
  | not (a : C)
  | ite (t a b : C)
  | nil
  | cons (a l : C)
  | star (a l : C)
  | tup (l : C)
  | lst (l : C)
  | lstc (l : C)
  | ix (a b : C)
  | sl (a lo hi : C)
  | rev (a : C)
  | sset (a : C)
  | lrange (t : Bool) (l : C)
  | makeK (j c : Nat) (l kl : C)
  | dict (ks : List (List Nat)) (l : C)
  | attr (a : C) (n : Nat)
  | call (f : Nat) (l : C) (perm : List Nat)
  | make (c : Nat) (l : C) (perm : List Nat)
  | meth (a : C) (n : Nat) (l : C) (perm : List Nat)
  | cmeth (c n : Nat) (l : C) (perm : List Nat)
  | callK (j : Nat) (l kl : C)
  | methK (a : C) (n j : Nat) (l kl : C)
  | kd (n : Nat) (a : C)
  | blt (b : Blt) (l : C)
  | mth (m : Mth) (a : C) (l : C)
  | fstr (l : C)
  | fmt (a : C)
  | range (l : C)
  | enum (a : C)
  | zip (a b : C)
  | comp (own : List Nat) (it tg cond elt : C)
  | comp2 (own own2 : List Nat) (it tg cond it2 tg2 cond2 elt : C)
  | dcomp (own : List Nat) (it tg key val : C)
  | freeze (a : C)
  | seq (a b : C)
  | pass
  | set (tg e : C)
  | ret (e : C)
  | expr (e : C)
  | iff (t a b : C)
  | for_ (tg it body : C)
  | while_ (t body : C)
  | brk
  | cont
  | raise (e : C)

structure Fn where
  np : Nat
  star : Bool
  slots : Nat
  body : C
/-- the text's own classes -/
structure Cls where
  fields : List Nat
  meths : List (Nat × Nat)
  props : List (Nat × Nat)
  cms : List (Nat × Nat)
  init : Nat
  frozen : Bool
/-- how a call with keywords binds: the def, how many values stand ahead, the keywords' names, the order, the defaults behind -/
structure Kwi where
  f : Nat
  n : Nat
  ks : List Str
  perm : List Nat
  d : List PV
structure Tb where
  globs : List PV
  cls : List Cls
  fns : List Fn
  kws : List Kwi := []

def lim : Nat := 1000000
def sT (x : List Nat) : Str := ⟨⟨x⟩⟩
def okS (x : List Nat) : Bool := decide (x.length ≤ lim) && x.all fun c => decide (c < 1114112)
def uT (x : Str) : List Nat := x.cps.toList
def fuelW : Nat := 100000
/-! ### names of the operators' methods -/
def nEq : Nat := 0
def nLen : Nat := 1
def nStr : Nat := 2
def nRepr : Nat := 3
def nIn : Nat := 4
def nNeg : Nat := 5
def nBool : Nat := 6
def nItem : Nat := 7
def nOp : BOp → Nat
  | .add => 8 | .sub => 9 | .mul => 10 | .bor => 11 | .band => 12 | _ => 13

/-! ### values -/
/-- the mark of a list that is read alone: the script -/
def scrN : Nat := 9999
def items (S : Store) : PV → Option (List PV)
  | .tup xs => some xs
  | .lst xs => some xs
  | .ex c xs => if c == scrN then some xs else none
  | .cell i => match S[i]? with
    | some (.lst xs) => some xs
    | some (.scr xs) => some xs
    | _ => none
  | _ => none
def tru (S : Store) : PV → Option Bool
  | .non => some false
  | .bl b => some b
  | .int i => some (i != 0)
  | .str x => some (!x.isEmpty)
  | .tup xs => some (!xs.isEmpty)
  | .lst xs => some (!xs.isEmpty)
  | .cell i => match S[i]? with
    | some (.lst xs) => some (!xs.isEmpty)
    | _ => none
  | _ => none
mutual
/-- plain data, nested at most so deep -/
def isD : PV → Bool
  | .non => true
  | .bl _ => true
  | .int _ => true
  | .str _ => true
  | .tup xs => isDs xs
  | .lst xs => isDs xs
  | .dct _ _ => false
  | .ins _ _ => false
  | .cell _ => false
  | .obj _ => false
  | .ex _ _ => false
def isDs : List PV → Bool
  | [] => true
  | x :: xs => isD x && isDs xs
end
mutual
def dep : PV → Nat
  | .tup xs => deps xs + 1
  | .lst xs => deps xs + 1
  | .non => 0
  | .bl _ => 0
  | .int _ => 0
  | .str _ => 0
  | .dct _ _ => 0
  | .ins _ _ => 0
  | .cell _ => 0
  | .obj _ => 0
  | .ex _ _ => 0
def deps : List PV → Nat
  | [] => 0
  | x :: xs => max (dep x) (deps xs)
end
mutual
/-- no place of the store from n on is held -/
def low (n : Nat) : PV → Bool
  | .non => true
  | .bl _ => true
  | .int _ => true
  | .str _ => true
  | .tup xs => lows n xs
  | .lst xs => lows n xs
  | .dct _ vs => lows n vs
  | .ins _ vs => lows n vs
  | .cell i => decide (i < n)
  | .obj _ => true
  | .ex _ vs => lows n vs
def lows (n : Nat) : List PV → Bool
  | [] => true
  | x :: xs => low n x && lows n xs
end
mutual
/-- == of plain data -/
def eqP : PV → PV → Bool
  | .non, .non => true
  | .bl a, .bl b => a == b
  | .bl a, .int j => (if a then 1 else 0) == j
  | .int i, .bl b => i == (if b then 1 else 0)
  | .int i, .int j => i == j
  | .str x, .str y => x == y
  | .tup xs, .tup ys => eqL xs ys
  | .lst xs, .lst ys => eqL xs ys
  | _, _ => false
def eqL : List PV → List PV → Bool
  | [], [] => true
  | x :: xs, y :: ys => eqP x y && eqL xs ys
  | _, _ => false
end
def eqD (p q : PV) : Option Bool := if isD p && isD q && decide (dep p ≤ 60) && decide (dep q ≤ 60) then some (eqP p q) else none
def isIn (p : PV) : List PV → Bool
  | [] => false
  | x :: xs => eqP x p || isIn p xs
/-- a list in the store as it is now -/
def thaw (S : Store) : PV → Option PV
  | .cell i => match S[i]? with
    | some (.lst xs) => some (.lst xs)
    | some (.dct ks vs) => some (.dct ks vs)
    | _ => none
  | p => some p

/-! ### numbers -/
def mulOk (i j : Int) : Bool := decide (i.natAbs < 2 ^ 64) || decide (j.natAbs < 2 ^ 64) || (decide (i.natAbs < 2 ^ 4000) && decide (j.natAbs < 2 ^ 4000))
def divOk (j : Int) : Bool := decide (0 < j) && decide (j.natAbs < 2 ^ 8000)
def powOk (i j : Int) : Bool := decide (0 ≤ j) && decide (j ≤ 1000000) && decide (i.natAbs < 2 ^ 64)
def b2i (b : Bool) : Int := if b then 1 else 0
/-- the signs of a whole number -/
def dec (i : Int) : List Nat := match i with
  | .ofNat n => (Nat.toDigits 10 n).map Char.toNat
  | .negSucc n => 45 :: (Nat.toDigits 10 (n + 1)).map Char.toNat

def hasC (c : Nat) : List Nat → Bool
  | [] => false
  | x :: r => x == c || hasC c r
def repL {α : Type} (xs : List α) : Nat → List α
  | 0 => []
  | n + 1 => xs ++ repL xs n

/-! ### operators on values -/
def binD (o : BOp) (p q : PV) (S : Store) : Option PV := match o, p, q with
  | .add, .int i, .int j => some (.int (i + j))
  | .add, .bl a, .bl b => some (.int (b2i a + b2i b))
  | .add, .int i, .bl b => some (.int (i + b2i b))
  | .add, .str x, .str y => if x.length + y.length ≤ lim then some (.str (x ++ y)) else none
  | .add, .tup xs, .tup ys => if xs.length + ys.length ≤ lim then some (.tup (xs ++ ys)) else none
  | .add, .lst xs, .lst ys => if xs.length + ys.length ≤ lim then some (.lst (xs ++ ys)) else none
  | .sub, .int i, .int j => some (.int (i - j))
  | .mul, .int i, .int j => if mulOk i j then some (.int (i * j)) else none
  | .mul, .str x, .int j => if decide (j ≤ 1000000) && decide (-1000000 ≤ j) && decide (x.length * j.toNat ≤ lim) then some (.str (repL x j.toNat)) else none
  | .mul, .lst xs, .int j => if decide (j ≤ 1000000) && decide (-1000000 ≤ j) && decide (xs.length * j.toNat ≤ lim) then some (.lst (repL xs j.toNat)) else none
  | .fdiv, .int i, .int j => if divOk j then some (.int (i / j)) else none
  | .mod, .int i, .int j => if decide (0 < j) then some (.int (i % j)) else none
  | .pow, .int i, .int j => if powOk i j then some (.int (i ^ j.toNat)) else none
  | .shl, .int i, .int j => if powOk i j then some (.int (i * 2 ^ j.toNat)) else none
  | _, _, _ => none

def ltT : List Nat → List Nat → Bool
  | [], [] => false
  | [], _ :: _ => true
  | _ :: _, [] => false
  | x :: xs, y :: ys => if x < y then true else if y < x then false else ltT xs ys
def isPre : List Nat → List Nat → Bool
  | [], _ => true
  | _ :: _, [] => false
  | x :: xs, y :: ys => (x == y) && isPre xs ys
def subIn (x : List Nat) : List Nat → Bool
  | [] => isPre x []
  | y :: ys => isPre x (y :: ys) || subIn x ys
/-- a comparison of plain data -/
def cmpD (o : COp) (p q : PV) (S : Store) : Option Bool := match o, p, q with
  | .lt, .int i, .int j => some (decide (i < j))
  | .le, .int i, .int j => some (decide (i ≤ j))
  | .gt, .int i, .int j => some (decide (j < i))
  | .ge, .int i, .int j => some (decide (j ≤ i))
  | .lt, .str x, .str y => some (ltT x y)
  | .gt, .str x, .str y => some (ltT y x)
  | .isin, .str x, .str y => match x with
    | [c] => some (hasC c y)
    | _ => none
  | .notin, .str x, .str y => match x with
    | [c] => some (!hasC c y)
    | _ => none
  | .is_, p, .non => match p with
    | .non => some true
    | _ => some false
  | .isnot, p, .non => match p with
    | .non => some false
    | _ => some true
  | .eq, p, q => (thaw S p).bind fun p => (thaw S q).bind fun q => eqD p q
  | .ne, p, q => (thaw S p).bind fun p => (thaw S q).bind fun q => (eqD p q).map (!·)
  | .isin, .str x, .dct ks _ => some (ks.contains x)
  | .notin, .str x, .dct ks _ => some (!ks.contains x)
  | .isin, p, q => (items S q).bind fun xs => if isD p && isDs xs && decide (dep p ≤ 60) && decide (deps xs ≤ 60) then some (isIn p xs) else none
  | .notin, p, q => (items S q).bind fun xs => if isD p && isDs xs && decide (dep p ≤ 60) && decide (deps xs ≤ 60) then some (!isIn p xs) else none
  | _, _, _ => none

/-- an index, counted from the end if it is below 0 -/
def ixZ (n : Nat) (i : Int) : Option Nat := if 0 ≤ i then (if i < n then some i.toNat else none) else if -(n : Int) ≤ i then some (i + n).toNat else none
def lookT (k : List Nat) : List (List Nat) → List PV → Option PV
  | x :: xs, p :: ps => if x == k then some p else lookT k xs ps
  | _, _ => none
def itemD (p q : PV) (S : Store) : Option PV := match p, q with
  | .dct ks vs, .str x => lookT x ks vs
  | .str x, .int i => (ixZ x.length i).bind fun j => x[j]?.map fun c => .str [c]
  | p, .int i => (items S p).bind fun xs => (ixZ xs.length i).bind fun j => xs[j]?
  | _, _ => none
/-- a cut's ends -/
def clampI (n : Nat) (i : Int) : Nat := if i < 0 then (i + n).toNat else min i.toNat n
def cutL {α : Type} (xs : List α) (lo hi : Option Int) : List α :=
  let a := match lo with
    | none => 0
    | some i => clampI xs.length i
  let b := match hi with
    | none => xs.length
    | some i => clampI xs.length i
  (xs.drop a).take (b - a)
def sliceD (p : PV) (a b : Option Int) (S : Store) : Option PV := match p with
  | .str x => some (.str (cutL x a b))
  | .tup xs => some (.tup (cutL xs a b))
  | .lst xs => some (.lst (cutL xs a b))
  | .ex c xs => if c == scrN then some (.lst (cutL xs a b)) else none
  | .cell i => match S[i]? with
    | some (.lst xs) => some (.lst (cutL xs a b))
    | some (.scr xs) => some (.lst (cutL xs a b))
    | _ => none
  | _ => none
def revD (p : PV) (S : Store) : Option PV := match p with
  | .str x => some (.str x.reverse)
  | .lst xs => some (.lst xs.reverse)
  | _ => none

/-! ### built-in functions -/
def strsO : List PV → Option (List (List Nat))
  | [] => some []
  | .str x :: r => (strsO r).map (x :: ·)
  | _ => none
def intsO : List PV → Option (List Int)
  | [] => some []
  | .int i :: r => (intsO r).map (i :: ·)
  | _ => none
def blsO : List PV → Option (List Bool)
  | [] => some []
  | .bl i :: r => (blsO r).map (i :: ·)
  | _ => none
def joinT (sep : List Nat) : List (List Nat) → List Nat
  | [] => []
  | [x] => x
  | x :: r => x ++ sep ++ joinT sep r
def sumL : List Int → Int
  | [] => 0
  | i :: r => i + sumL r
def sumLen : List (List Nat) → Nat
  | [] => 0
  | x :: r => x.length + sumLen r
def isTy (t : Ty) : PV → Option Bool
  | .non => some false
  | .bl _ => some (match t with
    | .int => true
    | .bool => true
    | _ => false)
  | .int _ => some (match t with
    | .int => true
    | _ => false)
  | .str _ => some (match t with
    | .str => true
    | _ => false)
  | .tup _ => some (match t with
    | .tuple => true
    | _ => false)
  | .lst _ => some (match t with
    | .list => true
    | _ => false)
  | .ins d _ => some (match t with
    | .own c => c == d
    | _ => false)
  | _ => none
def isAny (p : PV) : List Ty → Option Bool
  | [] => some false
  | t :: r => (isTy t p).bind fun b => if b then some true else isAny p r
def allT (S : Store) : List PV → Option Bool
  | [] => some true
  | p :: r => (tru S p).bind fun b => if b then allT S r else some false
def anyT (S : Store) : List PV → Option Bool
  | [] => some false
  | p :: r => (tru S p).bind fun b => if b then some true else anyT S r
def insT (x : List Nat) : List (List Nat) → List (List Nat)
  | [] => [x]
  | y :: r => if ltT y x then y :: insT x r else x :: y :: r
def sortT : List (List Nat) → List (List Nat)
  | [] => []
  | x :: r => insT x (sortT r)
/-- of equal neighbours one -/
def dropT : List (List Nat) → List (List Nat)
  | [] => []
  | x :: r => match r with
    | [] => [x]
    | y :: _ => if x == y then dropT r else x :: dropT r
mutual
def pd : PV → PyData
  | .non => .none
  | .bl b => .bool b
  | .int i => .int i
  | .str x => .str (sT x)
  | .tup xs => .tuple (pds xs)
  | .lst xs => .list (pds xs)
  | .dct _ _ => .none
  | .ins _ _ => .none
  | .cell _ => .none
  | .obj _ => .none
  | .ex _ _ => .none
def pds : List PV → List PyData
  | [] => []
  | x :: xs => pd x :: pds xs
end
/-- repr of plain data -/
def reprO (p : PV) : Option PV := if isD p && decide (dep p ≤ 60) && (pd p).showable && decide ((pd p).shown.length ≤ lim) && okS (uT (pd p).shown) then some (.str (uT (pd p).shown)) else none
def bltD (b : Blt) (l : List PV) (S : Store) : Option PV := match b, l with
  | .len, [.str x] => if x.length ≤ lim then some (.int x.length) else none
  | .len, [p] => (items S p).map fun xs => .int xs.length
  | .abs, [.int i] => some (.int (if i < 0 then -i else i))
  | .max, [.int i, .int j] => some (.int (if j > i then j else i))
  | .min, [.int i, .int j] => some (.int (if j < i then j else i))
  | .int, [.int i] => some (.int i)
  | .int, [.bl b] => some (.int (b2i b))
  | .int, [.str x] => if x.length ≤ 640 then (intText? (sT x)).map .int else none
  | .str, [.int i] => if decide (i.natAbs.log2 < 1920) && okS (uT (toString i : Str)) then some (.str (uT (toString i : Str))) else none
  | .str, [.str x] => some (.str x)
  | .bool, [p] => (tru S p).map .bl
  | .tuple, [p] => (items S p).map .tup
  | .list, [p] => (items S p).map .lst
  | .sorted, [.dct ks _] => if ks.length < 64 then some (.lst ((sortT ks).map .str)) else none
  | .sorted, [.lst xs] => (strsO xs).bind fun ts => if ts.length < 64 then some (.lst ((sortT ts).map .str)) else none
  | .sum, [.lst xs] => (intsO xs).map fun is => .int (sumL is)
  | .all, [.lst xs] => (blsO xs).map fun bs => .bl (bs.all id)
  | .any, [.lst xs] => (blsO xs).map fun bs => .bl (bs.any id)
  | .repr, [p] => (thaw S p).bind reprO
  | .sortedset, [p] => (items S p).bind fun xs => (strsO xs).bind fun ts => if ts.length < 64 then some (.lst ((dropT (sortT ts)).map .str)) else none
  | .divmod, [.int i, .int j] => if decide (0 < j) && decide (j < 1000000000) then some (.tup [.int (i / j), .int (i % j)]) else none
  | _, _ => none

/-! ### methods of built-in types -/
def splitT (sep : Nat) : List Nat → List Nat → List (List Nat)
  | [], cur => [cur.reverse]
  | c :: r, cur => if c == sep then cur.reverse :: splitT sep r [] else splitT sep r (c :: cur)
def countT (c : Nat) : List Nat → Nat
  | [] => 0
  | x :: r => (if x == c then 1 else 0) + countT c r
def indexP (p : PV) : List PV → Nat → Option Nat
  | [], _ => none
  | x :: r, k => if eqP x p then some k else indexP p r (k + 1)
def countP (p : PV) : List PV → Nat
  | [] => 0
  | x :: r => (if eqP x p then 1 else 0) + countP p r
def cutAt (c : Nat) : List Nat → List Nat → Option (List Nat × List Nat)
  | [], _ => none
  | x :: r, cur => if x == c then some (cur.reverse, r) else cutAt c r (x :: cur)
/-- a new text -/
def newS (x : Str) : Option PV := if okS (uT x) then some (.str (uT x)) else none
def newSs (xs : List Str) : Option (List PV) := if xs.all (fun x => okS (uT x)) then some (xs.map fun x => .str (uT x)) else none
def mthD (m : Mth) (p : PV) (l : List PV) (S : Store) : Option (PV × Store) := match m, p, l with
  | .join, .str sep, [q] => (items S q).bind fun xs => (strsO xs).bind fun ts => if decide (sumLen ts + ts.length * sep.length ≤ lim) then (newS (Txt.join (sT sep) (ts.map sT))).map fun r => (r, S) else none
  | .split, .str x, [.str y] => if !y.isEmpty && decide (x.length + 2 ≤ lim) then (newSs (Txt.split (sT x) (sT y))).map fun r => (.lst r, S) else none
  | .count, .str x, [.str y] => some (.int (Txt.count (sT x) (sT y)), S)
  | .startswith, .str x, [.str y] => some (.bl (Txt.startswith (sT x) (sT y)), S)
  | .get, .dct ks vs, [.str x, d] => some ((lookT x ks vs).getD d, S)
  | .append, .cell i, [q] => match S[i]? with
    | some (.lst xs) => if xs.length < lim then some (.non, S.set i (.lst (xs ++ [q]))) else none
    | _ => none
  | .pop, .cell i, [.int j] => match S[i]? with
    | some (.lst xs) => if decide (-1000000000 ≤ j) && decide (j < 1000000000) then (ixZ xs.length j).bind fun k => (xs[k]?).map fun p => (p, S.set i (.lst (xs.eraseIdx k))) else none
    | _ => none
  | .extend, .cell i, [.lst ys] => match S[i]? with
    | some (.lst xs) => if xs.length + ys.length ≤ lim then some (.non, S.set i (.lst (xs ++ ys))) else none
    | _ => none
  | .index, q, [r] => (items S q).bind fun xs => if isD r && isDs xs && decide (dep r ≤ 60) && decide (deps xs ≤ 60) then (indexP r xs 0).map fun k => (.int k, S) else none
  | .count, q, [r] => (items S q).bind fun xs => if isD r && isDs xs && decide (dep r ≤ 60) && decide (deps xs ≤ 60) then some (.int (countP r xs), S) else none
  | _, _, _ => none

/-- the kinds of values whose methods these are -/
def mthPre (m : Mth) (p : PV) (S : Store) : Bool := match m, p with
  | .join, .str _ => true
  | .split, .str _ => true
  | .count, .str _ => true
  | .startswith, .str _ => true
  | .partition, .str _ => true
  | .append, .cell i => match S[i]? with
    | some (.lst _) => true
    | _ => false
  | .extend, .cell i => match S[i]? with
    | some (.lst _) => true
    | _ => false
  | .pop, .cell i => match S[i]? with
    | some (.lst _) => true
    | _ => false
  | _, _ => false
/-! ### ranges -/
def upFrom (lo : Int) : Nat → List PV
  | 0 => []
  | n + 1 => .int lo :: upFrom (lo + 1) n
def stepFrom (lo c : Int) : Nat → List PV
  | 0 => []
  | n + 1 => .int lo :: stepFrom (lo + c) c n
def rangeOk (i : Int) : Bool := decide (-(2 ^ 62) ≤ i) && decide (i < 2 ^ 62)
def rangeD : List PV → Option (List PV)
  | [.int n] => if rangeOk n then some (upFrom 0 n.toNat) else none
  | [.int a, .int b] => if rangeOk a && rangeOk b then some (upFrom a (b - a).toNat) else none
  | [.int a, .int b, .int c] => if rangeOk a && rangeOk b && decide (c = -1) then some (stepFrom a (-1) (a - b).toNat) else none
  | _ => none
def enumL : Nat → List PV → List PV
  | _, [] => []
  | k, x :: r => .tup [.int k, x] :: enumL (k + 1) r
def zipL : List PV → List PV → List PV
  | x :: r, y :: s => .tup [x, y] :: zipL r s
  | _, _ => []
def signs : List Nat → List PV
  | [] => []
  | c :: r => .str [c] :: signs r
def itemsI (S : Store) : PV → Option (List PV)
  | .str x => some (signs x)
  | .tup xs => some xs
  | .lst xs => some xs
  | _ => none

def permV (perm : List Nat) (vs : List PV) : List PV := match perm with
  | [] => vs
  | p :: r => (p :: r).filterMap fun j => vs[j]?

def lowC (n : Nat) : Cel → Bool
  | .lst xs => lows n xs
  | .dct _ vs => lows n vs
  | .ins _ vs => lows n vs
  | .scr xs => lows n xs
  | .dead => true
/-- what is left of the store behind a call -/
def after (n : Nat) (v : PV) (S : Store) : R PV :=
  if S.length == n then .ok v S else match v with
  | .cell j => if n ≤ j then .ok v S else if (S.take n).all (lowC n) then .ok v (S.take n) else .bad
  | v => if low n v && (S.take n).all (lowC n) then .ok v (S.take n) else .bad

/-! ### meaning -/
structure Den where
  e : Env → Store → R PV := fun _ _ => .bad
  l : Env → Store → R (List PV) := fun _ _ => .bad
  s : Env → Store → R Fl := fun _ _ => .bad
  t : PV → Env → Store → R Env := fun _ _ _ => .bad
  ts : List PV → Env → Store → R Env := fun _ _ _ => .bad
  i : Env → Store → R (List PV) := fun _ _ => .bad
  j : List Nat → Env → Store → R (List Nat) := fun _ _ _ => .bad

abbrev Calls := Nat → List PV → Store → R PV

section
variable (T : Tb) (call mk : Calls)

def methOf (c n : Nat) : Option Nat := (T.cls[c]?).bind fun k => k.meths.lookup n
def cmethOf (c n : Nat) : Option Nat := (T.cls[c]?).bind fun k => k.cms.lookup n
def propOf (c n : Nat) : Option Nat := (T.cls[c]?).bind fun k => k.props.lookup n
def fieldIx : List Nat → Nat → Option Nat
  | [], _ => none
  | x :: r, n => if x == n then some 0 else (fieldIx r n).map (· + 1)
def fieldOf (c n : Nat) : Option Nat := (T.cls[c]?).bind fun k => fieldIx k.fields n
/-- an instance as it stands now: its class and its attributes -/
def insC (S : Store) : PV → Option (Nat × List PV)
  | .ins c fs => some (c, fs)
  | .cell i => match S[i]? with
    | some (.ins c fs) => some (c, fs)
    | _ => none
  | _ => none
/-- a method of an instance -/
def methF (p : PV) (n : Nat) (S : Store) : Option Nat := match insC S p with
  | some (c, _) => methOf T c n
  | none => none
def callM (p : PV) (n : Nat) (vs : List PV) (S : Store) : R PV := (opt (methF T p n S) S).bind fun f S => call f (p :: vs) S
def attrE (p : PV) (n : Nat) (S : Store) : R PV := match insC S p with
  | some (c, fs) => match fieldOf T c n with
    | some i => opt fs[i]? S
    | none => match propOf T c n with
      | some f => call f [p] S
      | none => .bad
  | none => .bad
def binE (o : BOp) (p q : PV) (S : Store) : R PV := match p with
  | .ins c fs => match q with
    | .ins d gs => if (d == c) && (nOp o != 13) then callM T call (.ins c fs) (nOp o) [.ins d gs] S else .bad
    | _ => .bad
  | p => (opt (thaw S p) S).bind fun p S => (opt (thaw S q) S).bind fun q S => opt (binD o p q S) S
def negE (p : PV) (S : Store) : R PV := match p with
  | .ins c fs => callM T call (.ins c fs) nNeg [] S
  | .int i => .ok (.int (-i)) S
  | _ => .bad
def boolE (r : R PV) (neg : Bool) : R PV := r.bind fun v S => match v with
  | .bl b => .ok (.bl (b != neg)) S
  | _ => .bad
/-- what may stand behind == of an instance -/
def eqRhs : PV → Bool
  | .non => true
  | .bl _ => true
  | .int _ => true
  | .str _ => true
  | .tup _ => true
  | .lst _ => true
  | .ins d _ => (T.cls[d]?).isSome
  | _ => false
def cmpE (o : COp) (p q : PV) (S : Store) : R PV := match o, p, q with
  | .eq, .ins c fs, q => if eqRhs T q then boolE (callM T call (.ins c fs) nEq [q] S) false else .bad
  | .ne, .ins c fs, q => if eqRhs T q then boolE (callM T call (.ins c fs) nEq [q] S) true else .bad
  | .isin, p, .ins c fs => boolE (callM T call (.ins c fs) nIn [p] S) false
  | .notin, p, .ins c fs => boolE (callM T call (.ins c fs) nIn [p] S) true
  | o, p, q => (opt (cmpD o p q S) S).bind fun b S => .ok (.bl b) S
def isiO (t : Ty) (p : PV) : Option Bool := match p with
  | .ins d _ => if (T.cls[d]?).isSome then isTy t p else none
  | _ => isTy t p
def bltE (b : Blt) (l : List PV) (S : Store) : R PV := match b, l with
  | .isi [t], [p] => (opt (isiO T t p) S).bind fun b S => .ok (.bl b) S
  | .len, [.ins c fs] => (callM T call (.ins c fs) nLen [] S).bind fun v S => match v with
    | .int n => if decide (0 ≤ n) && decide (n < 1000000000) then .ok (.int n) S else .bad
    | _ => .bad
  | .str, [.ins c fs] => (callM T call (.ins c fs) nStr [] S).bind fun v S => match v with
    | .str x => .ok (.str x) S
    | _ => .bad
  | .repr, [.ins c fs] => (callM T call (.ins c fs) nRepr [] S).bind fun v S => match v with
    | .str x => .ok (.str x) S
    | _ => .bad
  | .bool, [.ins c fs] => callM T call (.ins c fs) nBool [] S
  | .listc, [p] => match items S p with
    | some xs => if xs.length ≤ lim then .ok (.cell S.length) (S ++ [.lst xs]) else .bad
    | none => .bad
  | b, l => opt (bltD b l S) S
def mthE (m : Mth) (p : PV) (ps : List PV) (S : Store) : R PV := match mthD m p ps S with
  | some (q, S') => .ok q S'
  | none => .bad
def itemE (p q : PV) (S : Store) : R PV := opt (itemD p q S) S
/-- C(..): a new instance, its __init__, and what it is then -/
def makeE (c : Nat) (vs : List PV) (S : Store) : R PV := match T.cls[c]? with
  | none => .bad
  | some k => (mk k.init (.cell S.length :: vs) (S ++ [.ins c []])).bind fun v S2 => match v, S2[S.length]? with
    | .non, some (.ins c' fs) => if k.frozen then (if (c' == c) && (S2.length == S.length + 1) && lows S.length fs && (S2.take S.length).all (lowC S.length) then .ok (.ins c fs) (S2.take S.length) else .bad) else .ok (.cell S.length) S2
    | _, _ => .bad
def makeV (c : Nat) (as : List PV) (S : Store) : R PV := match T.cls[c]? with
  | none => .bad
  | some k => (mk k.init as (S ++ [.ins c []])).bind fun v S2 => match v, S2[S.length]? with
    | .non, some (.ins c' fs) => if k.frozen then (if (c' == c) && (S2.length == S.length + 1) && lows S.length fs && (S2.take S.length).all (lowC S.length) then .ok (.ins c fs) (S2.take S.length) else .bad) else .ok (.cell S.length) S2
    | _, _ => .bad
def setAttrE (p : PV) (n : Nat) (v : PV) (S : Store) : R Unit := match p with
  | .cell i => match S[i]? with
    | some (.ins c fs) => match fieldOf T c n with
      | some j => if j < fs.length then .ok () (S.set i (.ins c (fs.set j v))) else if j == fs.length then .ok () (S.set i (.ins c (fs ++ [v]))) else .bad
      | none => .bad
    | _ => .bad
  | _ => .bad
def setItemE (p q v : PV) (S : Store) : R Unit := match p, q with
  | .cell i, .int j => match S[i]? with
    | some (.lst xs) => match ixZ xs.length j with
      | some k => .ok () (S.set i (.lst (xs.set k v)))
      | none => .bad
    | _ => .bad
  | _, _ => .bad
def textE (p : PV) (S : Store) : R (List Nat) := match p with
  | .str x => .ok x S
  | .int i => if decide (i.natAbs.log2 < 1920) && okS (uT (toString i : Str)) then .ok (uT (toString i : Str)) S else .bad
  | .ins c fs => (callM T call (.ins c fs) nStr [] S).bind fun v S => match v with
    | .str x => .ok x S
    | _ => .bad
  | _ => .bad
end

def forLoop (tg : PV → Env → Store → R Env) (body : Env → Store → R Fl) : List PV → Env → Store → R Fl
  | [], ρ, S => .ok (.next ρ) S
  | x :: xs, ρ, S => (tg x ρ S).bindB fun ρ1 S1 => (body ρ1 S1).bindB fun f S2 => match f with
    | .next ρ2 => forLoop tg body xs ρ2 S2
    | .cont ρ2 => forLoop tg body xs ρ2 S2
    | .brk ρ2 => .ok (.next ρ2) S2
    | .ret v => .ok (.ret v) S2
    | .exc e ρ2 => .ok (.exc e ρ2) S2
def whileLoop (test : Env → Store → R PV) (body : Env → Store → R Fl) : Nat → Env → Store → R Fl
  | 0, _, _ => .bad
  | n + 1, ρ, S => (test ρ S).bindS ρ fun p S1 => match tru S1 p with
    | none => .bad
    | some false => .ok (.next ρ) S1
    | some true => (body ρ S1).bindB fun f S2 => match f with
      | .next ρ2 => whileLoop test body n ρ2 S2
      | .cont ρ2 => whileLoop test body n ρ2 S2
      | .brk ρ2 => .ok (.next ρ2) S2
      | .ret v => .ok (.ret v) S2
      | .exc e ρ2 => .ok (.exc e ρ2) S2
/-- a comprehension's turns -/
def compLoop (tg : PV → Env → Store → R Env) (cond : Env → Store → R PV) (elt : Env → Store → R PV) (ρ : Env) : List PV → Store → R (List PV)
  | [], S => .ok [] S
  | x :: xs, S => (tg x ρ S).bindB fun ρ1 S1 => (cond ρ1 S1).bindB fun p S2 => match tru S2 p with
    | none => .bad
    | some false => compLoop tg cond elt ρ xs S2
    | some true => (elt ρ1 S2).bindB fun q S3 => (after S2.length q S3).bindB fun q S3 => (compLoop tg cond elt ρ xs S3).bindB fun qs S4 => .ok (q :: qs) S4
def compLoop2 (tg : PV → Env → Store → R Env) (cond : Env → Store → R PV) (inner : Env → Store → R (List PV)) (ρ : Env) : List PV → Store → R (List PV)
  | [], S => .ok [] S
  | x :: xs, S => (tg x ρ S).bindB fun ρ1 S1 => (cond ρ1 S1).bindB fun p S2 => match tru S2 p with
    | none => .bad
    | some false => compLoop2 tg cond inner ρ xs S2
    | some true => (inner ρ1 S2).bindB fun q S3 => (compLoop2 tg cond inner ρ xs S3).bindB fun qs S4 => .ok (q ++ qs) S4
/-- a key's value put into a dict -/
def putD {α : Type} (k : List Nat) (v : α) (ks : List (List Nat)) (vs : List α) : List (List Nat) × List α :=
  if ks.contains k then (ks, (ks.zip vs).map fun kv => if kv.1 == k then v else kv.2) else (ks ++ [k], vs ++ [v])
def dcompLoop (tg : PV → Env → Store → R Env) (key : Env → Store → R PV) (val : Env → Store → R PV) (ρ : Env) : List PV → List (List Nat) → List PV → Store → R PV
  | [], ks, vs, S => .ok (.dct ks vs) S
  | x :: xs, ks, vs, S => (tg x ρ S).bindB fun ρ1 S1 => (key ρ1 S1).bindB fun p S2 => (val ρ1 S2).bindB fun q S3 => match p with
    | .str k => if ks.length < lim then dcompLoop tg key val ρ xs (putD k q ks vs).1 (putD k q ks vs).2 S3 else .bad
    | _ => .bad
def wipeE : List Nat → Env → Env
  | [], ρ => ρ
  | i :: r, ρ => (wipeE r ρ).set i none
def sizeOk (xs : List PV) (S : Store) : R PV := if xs.length ≤ lim then .ok (.lst xs) S else .bad

def isNil : C → Bool
  | .nil => true
  | _ => false
/-- an end of a cut, which may be absent -/
def partE (no : Bool) (y : Env → Store → R PV) (ρ : Env) (S : Store) : R (Option Int) := if no then .ok none S else (y ρ S).bind fun p S => match p with
  | .int i => .ok (some i) S
  | _ => .bad
/-- an expression's value, walked: a list, a tuple or a text -/
def iterE (x : Env → Store → R PV) : Env → Store → R (List PV) := fun e S => (x e S).bind fun p S => opt (itemsI S p) S
def freezeR (p : PV) (S : Store) : R PV := match p with
  | .cell i => match S[i]? with
    | some (.lst xs) => .ok (.lst xs) (S.set i .dead)
    | some (.dct ks vs) => .ok (.dct ks vs) (S.set i .dead)
    | _ => .bad
  | p => .ok p S
/-- a dict of the module, at a text -/
def kdD (T : Tb) (n : Nat) (p : PV) : Option PV := match T.globs[n]?, p with
  | some (.dct ks vs), .str k => lookT k ks vs
  | _, _ => none
def isK (T : Tb) (j f : Nat) : Bool := match T.kws[j]? with
  | some ki => ki.f == f
  | none => false
def callK (T : Tb) (call : Calls) (j : Nat) (ps qs : List PV) (S : Store) : R PV := match T.kws[j]? with
  | some ki => if (ki.n == ps.length) && (ki.ks.length == qs.length) then call ki.f (permV ki.perm (ps ++ qs ++ ki.d)) S else .bad
  | none => .bad
/-- sorted(set(texts)) -/
def ssetD (p : PV) (S : Store) : Option PV := (items S p).bind fun xs => (strsO xs).bind fun ts => if ts.length < 64 then some (.lst ((dropT (sortT ts)).map .str)) else none
/-- list(range(..)), tuple(range(..)) -/
def lrD (t : Bool) (ps : List PV) (S : Store) : R PV := (opt (rangeD ps) S).bind fun xs S => if xs.length ≤ lim then .ok (if t then .tup xs else .lst xs) S else .bad
/-- a new instance, with keywords -/
def makeK (T : Tb) (mk : Calls) (j c : Nat) (ps qs : List PV) (S : Store) : R PV := match T.kws[j]? with
  | some ki => if (ki.n == ps.length + 1) && (ki.ks.length == qs.length) && (match T.cls[c]? with
    | some k => k.init == ki.f
    | none => false) then makeV T mk c (permV ki.perm (.cell S.length :: (ps ++ qs ++ ki.d))) S else .bad
  | none => .bad
def den (T : Tb) (call mk : Calls) : C → Den
  | .v i =>
    let f := fun ρ S => match ρ[i]? with
      | some (some p) => R.ok p S
      | _ => .bad
    { e := f, i := iterE f
      t := fun p ρ S => if i < ρ.length then .ok (ρ.set i (some p)) S else .bad }
  | .k p =>
    let f := fun _ S => R.ok p S
    { e := f, i := iterE f }
  | .g n =>
    let f := fun _ S => opt T.globs[n]? S
    { e := f, i := iterE f }
  | .bin o a b =>
    let x := den T call mk a
    let y := den T call mk b
    let f := fun ρ S => (x.e ρ S).bind fun p S => (y.e ρ S).bind fun q S => binE T call o p q S
    { e := f, i := iterE f }
  | .neg a =>
    let x := den T call mk a
    { e := fun ρ S => (x.e ρ S).bind fun p S => negE T call p S }
  | .cmp o a b =>
    let x := den T call mk a
    let y := den T call mk b
    { e := fun ρ S => (x.e ρ S).bind fun p S => (y.e ρ S).bind fun q S => cmpE T call o p q S }
  | .chain o o' a b c =>
    let x := den T call mk a
    let y := den T call mk b
    let z := den T call mk c
    { e := fun ρ S => (x.e ρ S).bind fun p S => (y.e ρ S).bind fun q S => (cmpE T call o p q S).bind fun v S => match v with
        | .bl true => (z.e ρ S).bind fun r S => cmpE T call o' q r S
        | .bl false => .ok (.bl false) S
        | _ => .bad }
  | .and a b =>
    let x := den T call mk a
    let y := den T call mk b
    { e := fun ρ S => (x.e ρ S).bind fun p S => match tru S p with
        | none => .bad
        | some true => y.e ρ S
        | some false => .ok p S }
  | .or a b =>
    let x := den T call mk a
    let y := den T call mk b
    { e := fun ρ S => (x.e ρ S).bind fun p S => match tru S p with
        | none => .bad
        | some false => y.e ρ S
        | some true => .ok p S }
  | .not a =>
    let x := den T call mk a
    { e := fun ρ S => (x.e ρ S).bind fun p S => match tru S p with
        | none => .bad
        | some b => .ok (.bl (!b)) S }
  | .ite t a b =>
    let x := den T call mk a
    let y := den T call mk b
    let z := den T call mk t
    let f := fun ρ S => (z.e ρ S).bind fun p S => match tru S p with
        | none => .bad
        | some true => x.e ρ S
        | some false => y.e ρ S
    { e := f, i := iterE f }
  | .nil => { j := fun acc _ S => .ok acc S, l := fun _ S => .ok [] S, ts := fun vs ρ S => match vs with
      | [] => .ok ρ S
      | _ => .bad }
  | .cons a l =>
    let x := den T call mk a
    let y := den T call mk l
    { l := fun ρ S => (x.e ρ S).bind fun p S => (y.l ρ S).bind fun ps S => .ok (p :: ps) S
      j := fun acc ρ S => (x.e ρ S).bind fun p S => match p with
        | .str t => if acc.length + t.length ≤ lim then y.j (acc ++ t) ρ S else .bad
        | _ => .bad
      ts := fun vs ρ S => match vs with
        | v :: r => (x.t v ρ S).bind fun ρ S => y.ts r ρ S
        | _ => .bad }
  | .star a l =>
    let x := den T call mk a
    let y := den T call mk l
    { l := fun ρ S => (x.e ρ S).bind fun p S => (opt (items S p) S).bind fun xs S => (y.l ρ S).bind fun ps S => .ok (xs ++ ps) S }
  | .tup l =>
    let x := den T call mk l
    let f := fun ρ S => (x.l ρ S).bind fun ps S => if ps.length ≤ lim then .ok (.tup ps) S else .bad
    { e := f, i := iterE f, l := x.l
      t := fun v ρ S => match v with
        | .tup xs => x.ts xs ρ S
        | _ => .bad }
  | .lst l =>
    let x := den T call mk l
    let f := fun ρ S => (x.l ρ S).bind fun ps S => if ps.length ≤ lim then .ok (.lst ps) S else .bad
    { e := f, i := iterE f }
  | .lstc l =>
    let x := den T call mk l
    { e := fun ρ S => (x.l ρ S).bind fun ps S => if ps.length ≤ lim then .ok (.cell S.length) (S ++ [.lst ps]) else .bad }
  | .ix a b =>
    let x := den T call mk a
    let y := den T call mk b
    let f := fun ρ S => (x.e ρ S).bind fun p S => (y.e ρ S).bind fun q S => itemE p q S
    { e := f, i := iterE f
      t := fun v ρ S => (x.e ρ S).bind fun p S => (y.e ρ S).bind fun q S => (setItemE p q v S).bind fun _ S => .ok ρ S }
  | .sl a lo hi =>
    let x := den T call mk a
    let y := den T call mk lo
    let z := den T call mk hi
    let f := fun ρ S => (x.e ρ S).bind fun p S => (partE (isNil lo) y.e ρ S).bind fun q S => (partE (isNil hi) z.e ρ S).bind fun r S => opt (sliceD p q r S) S
    { e := f, i := iterE f }
  | .rev a =>
    let x := den T call mk a
    let f := fun ρ S => (x.e ρ S).bind fun p S => opt (revD p S) S
    { e := f, i := iterE f }
  | .sset a =>
    let x := den T call mk a
    let f := fun ρ S => (x.e ρ S).bind fun p S => opt (ssetD p S) S
    { e := f, i := iterE f }
  | .lrange t l =>
    let x := den T call mk l
    let f := fun ρ S => (x.l ρ S).bind fun ps S => lrD t ps S
    { e := f, i := iterE f }
  | .makeK j c l kl =>
    let x := den T call mk l
    let y := den T call mk kl
    { e := fun ρ S => (x.l ρ S).bind fun ps S => (y.l ρ S).bind fun qs S => makeK T mk j c ps qs S }
  | .dict ks l =>
    let x := den T call mk l
    { e := fun ρ S => (x.l ρ S).bind fun ps S => if ps.length == ks.length then .ok (.dct ks ps) S else .bad }
  | .attr a n =>
    let x := den T call mk a
    let f := fun ρ S => (x.e ρ S).bind fun p S => attrE T call p n S
    { e := f, i := iterE f
      t := fun v ρ S => (x.e ρ S).bind fun p S => (setAttrE T p n v S).bind fun _ S => .ok ρ S }
  | .call f l perm =>
    let x := den T call mk l
    let g := fun ρ S => (x.l ρ S).bind fun ps S => call f (permV perm ps) S
    { e := g, i := iterE g }
  | .make c l perm =>
    let x := den T call mk l
    { e := fun ρ S => (x.l ρ S).bind fun ps S => makeE T mk c (permV perm ps) S }
  | .meth a n l perm =>
    let x := den T call mk a
    let y := den T call mk l
    let f := fun ρ S => (x.e ρ S).bind fun p S => (opt (methF T p n S) S).bind fun f S => (y.l ρ S).bind fun ps S => call f (p :: permV perm ps) S
    { e := f, i := iterE f }
  | .cmeth c n l perm =>
    let y := den T call mk l
    let f := fun ρ S => (y.l ρ S).bind fun ps S => match cmethOf T c n with
      | some f => call f (.obj c :: permV perm ps) S
      | none => .bad
    { e := f, i := iterE f }
  | .callK j l kl =>
    let x := den T call mk l
    let y := den T call mk kl
    let f := fun ρ S => (x.l ρ S).bind fun ps S => (y.l ρ S).bind fun qs S => callK T call j ps qs S
    { e := f, i := iterE f }
  | .methK a n j l kl =>
    let x := den T call mk a
    let y := den T call mk l
    let z := den T call mk kl
    let f := fun ρ S => (x.e ρ S).bind fun p S => (opt (methF T p n S) S).bind fun f S => if isK T j f then (y.l ρ S).bind fun ps S => (z.l ρ S).bind fun qs S => callK T call j (p :: ps) qs S else .bad
    { e := f, i := iterE f }
  | .kd n a =>
    let x := den T call mk a
    let f := fun ρ S => (x.e ρ S).bind fun p S => opt (kdD T n p) S
    { e := f, i := iterE f }
  | .blt b l =>
    let x := den T call mk l
    let f := fun ρ S => (x.l ρ S).bind fun ps S => bltE T call b ps S
    { e := f, i := iterE f }
  | .mth m a l =>
    let x := den T call mk a
    let y := den T call mk l
    let f := fun ρ S => (x.e ρ S).bind fun p S => if mthPre m p S then (y.l ρ S).bind fun ps S => mthE m p ps S else .bad
    { e := f, i := iterE f }
  | .fstr l =>
    let x := den T call mk l
    let f := fun ρ S => (x.j [] ρ S).bind fun x S => if okS x then .ok (.str x) S else .bad
    { e := f, i := iterE f }
  | .fmt a =>
    let x := den T call mk a
    { e := fun ρ S => (x.e ρ S).bind fun p S => (textE T call p S).bind fun t S => .ok (.str t) S }
  | .range l =>
    let x := den T call mk l
    { e := fun ρ S => (x.l ρ S).bind fun ps S => (opt (rangeD ps) S).bind fun xs S => if xs.length ≤ lim then .ok (.lst xs) S else .bad
      i := fun ρ S => (x.l ρ S).bind fun ps S => opt (rangeD ps) S }
  | .enum a =>
    let x := den T call mk a
    { i := fun e S => (x.e e S).bind fun p S => match p with
        | .lst xs => .ok (enumL 0 xs) S
        | .tup xs => .ok (enumL 0 xs) S
        | _ => .bad }
  | .zip a b =>
    let x := den T call mk a
    let y := den T call mk b
    { i := fun e S => (x.e e S).bind fun p S => (y.e e S).bind fun q S => match p, q with
        | .lst xs, .lst ys => if xs.length == ys.length then .ok (zipL xs ys) S else .bad
        | .tup xs, .tup ys => if xs.length == ys.length then .ok (zipL xs ys) S else .bad
        | _, _ => .bad }
  | .comp own it tg cond elt =>
    let d := den T call mk it
    let t := den T call mk tg
    let c := den T call mk cond
    let x := den T call mk elt
    let f := fun ρ S => (d.i ρ S).bind fun xs S => (compLoop t.t c.e x.e (wipeE own ρ) xs S).bind fun ys S => sizeOk ys S
    { e := f, i := iterE f }
  | .comp2 own own2 it tg cond it2 tg2 cond2 elt =>
    let d := den T call mk it
    let t := den T call mk tg
    let c := den T call mk cond
    let d2 := den T call mk it2
    let t2 := den T call mk tg2
    let c2 := den T call mk cond2
    let x := den T call mk elt
    let f := fun ρ S => (d.i ρ S).bind fun xs S => (compLoop2 t.t c.e (fun ρ S => (d2.i ρ S).bind fun ys S => compLoop t2.t c2.e x.e (wipeE own2 ρ) ys S) (wipeE own ρ) xs S).bind fun ys S => sizeOk ys S
    { e := f, i := iterE f }
  | .dcomp own it tg key val =>
    let d := den T call mk it
    let t := den T call mk tg
    let c := den T call mk key
    let x := den T call mk val
    { e := fun ρ S => (d.i ρ S).bind fun xs S => dcompLoop t.t c.e x.e (wipeE own ρ) xs [] [] S }
  | .freeze a =>
    let x := den T call mk a
    let f := fun ρ S => (x.e ρ S).bind fun p S => freezeR p S
    { e := f, i := iterE f }
  | .seq a b =>
    let x := den T call mk a
    let y := den T call mk b
    { s := fun ρ S => (x.s ρ S).bindB fun f S => match f with
        | .next ρ => y.s ρ S
        | f => .ok f S }
  | .pass => { s := fun ρ S => .ok (.next ρ) S }
  | .set tg a =>
    let x := den T call mk a
    let t := den T call mk tg
    { s := fun ρ S => (x.e ρ S).bindS ρ fun p S => (t.t p ρ S).bindB fun ρ S => .ok (.next ρ) S }
  | .ret a =>
    let x := den T call mk a
    { s := fun ρ S => (x.e ρ S).bindS ρ fun p S => .ok (.ret p) S }
  | .expr a =>
    let x := den T call mk a
    { s := fun ρ S => (x.e ρ S).bindS ρ fun _ S => .ok (.next ρ) S }
  | .iff t a b =>
    let x := den T call mk a
    let y := den T call mk b
    let z := den T call mk t
    { s := fun ρ S => (z.e ρ S).bindS ρ fun p S => match tru S p with
        | none => .bad
        | some true => x.s ρ S
        | some false => y.s ρ S }
  | .for_ tg it body =>
    let d := den T call mk it
    let t := den T call mk tg
    let b := den T call mk body
    { s := fun ρ S => (d.i ρ S).bindS ρ fun xs S => forLoop t.t b.s xs ρ S }
  | .while_ t body =>
    let c := den T call mk t
    let b := den T call mk body
    { s := fun ρ S => whileLoop c.e b.s fuelW ρ S }
  | .brk => { s := fun ρ S => .ok (.brk ρ) S }
  | .cont => { s := fun ρ S => .ok (.cont ρ) S }
  | .raise _ => {}

/-- the end of a def's body -/
def endE (n : Nat) (r : R Fl) : R PV := match r with
  | .ok (.ret v) S => after n v S
  | .ok (.next _) S => after n .non S
  | .ok (.exc e _) S => match after n e S with
    | .ok e S => .exc e S
    | _ => .bad
  | .ok _ _ => .bad
  | .exc _ _ => .bad
  | .bad => .bad
def argsOf (f : Fn) (vs : List PV) : Option (List PV) :=
  if f.star then (if f.np ≤ vs.length && vs.length ≤ lim then some (vs.take f.np ++ [.tup (vs.drop f.np)]) else none) else if vs.length == f.np then some vs else none
def envOf (f : Fn) (as : List PV) : Env := as.map some ++ List.replicate (f.slots - as.length) none
def runF (T : Tb) (call mk : Calls) : Calls := fun f vs S => match T.fns[f]? with
  | none => .bad
  | some fn => match argsOf fn vs with
    | none => .bad
    | some as => endE S.length ((den T call mk fn.body).s (envOf fn as) S)
def noCalls : Calls := fun _ _ _ => .bad
def callN (T : Tb) : Nat → Calls
  | 0 => noCalls
  | n + 1 => runF T (callN T n) (callN T n)
end Ev
set_option Elab.async false
set_option linter.all false
set_option maxRecDepth 100000
/-! E1: how the evaluator's values and store lie in the layer's heap. -/
namespace Ev
open PySem L2

theorem okS_len {x : List Nat} (h : okS x = true) : x.length ≤ lim := of_decide_eq_true (Bool.and_eq_true_iff.mp h).1
theorem lim_line : lim ≤ sizeLine := by rw [sizeLine_eq]; decide
/-- where the text's own classes and names lie -/
structure Rt where
  K : PySem.W.Frag
  nm : Nat → Str
  clsA : Nat → Addr
  T : Tb
def Rt.fields (G : Rt) (c : Nat) : List Str := match G.T.cls[c]? with
  | some k => k.fields.map G.nm
  | none => []
def kvs (ks : List (List Nat)) (vs : List V) : List (Key × V) := (ks.map fun k => (Sum.inr (sT k) : Key)).zip vs

section
variable (G : Rt) (F : Hp) (ρ : List Addr)
mutual
/-- the value v is p: what it is made of stands in F (which never changes), what changes at ρ -/
def rv : PV → V → Prop
  | .non, v => v = .non
  | .bl b, v => v = .bl b
  | .int i, v => v = .int i
  | .str x, v => v = .str (sT x) ∧ okS x = true
  | .tup xs, v => ∃ a vs, v = .ref a ∧ SqT G.K F a vs ∧ rvs xs vs
  | .lst xs, v => ∃ a vs, v = .ref a ∧ F a = some (.lst vs) ∧ rvs xs vs
  | .dct ks xs, v => ∃ a vs, v = .ref a ∧ Rd F a (.dK (kvs ks vs)) ∧ ks.length = vs.length ∧ ks.Nodup ∧ (∀ k ∈ ks, okS k = true) ∧ rvs xs vs
  | .ins c xs, v => ∃ a dx vs, v = .ref a ∧ F a = some (.ins (G.clsA c) dx ((G.fields c).zip vs)) ∧ vs.length ≤ (G.fields c).length ∧ rvs xs vs
  | .cell i, v => ∃ a, v = .ref a ∧ ρ[i]? = some a
  | .obj n, v => v = .ref (G.clsA n)
  | .ex c xs, v => c = scrN ∧ ∃ a vs, v = .ref a ∧ SqL G.K F a vs ∧ rvs xs vs
def rvs : List PV → List V → Prop
  | [], vs => vs = []
  | x :: xs, vs => ∃ v r, vs = v :: r ∧ rv x v ∧ rvs xs r
end
end
def rc (G : Rt) (F : Hp) (ρ : List Addr) : Cel → Option HO → Prop
  | .lst xs, o => ∃ vs, o = some (.lst vs) ∧ rvs G F ρ xs vs
  | .dct ks xs, o => ∃ vs, o = some (.dK (kvs ks vs)) ∧ ks.length = vs.length ∧ ks.Nodup ∧ (∀ k ∈ ks, okS k = true) ∧ rvs G F ρ xs vs
  | .ins c xs, o => ∃ dx vs, o = some (.ins (G.clsA c) dx ((G.fields c).zip vs)) ∧ vs.length ≤ (G.fields c).length ∧ rvs G F ρ xs vs
  | .scr xs, o => ∃ u vs, o = some (.frz u (.lst vs)) ∧ rvs G F ρ xs vs
  | .dead, o => ∃ u, o = some u
/-- the store lies in the heap -/
structure SR (G : Rt) (F : Hp) (ρ : List Addr) (H : Hp) (S : Store) : Prop where
  sub : Same F H
  len : ρ.length = S.length
  at_ : ∀ (i : Nat) c a, S[i]? = some c → ρ[i]? = some a → rc G F ρ c (H a)
  live : ∀ (i : Nat) c a, S[i]? = some c → ρ[i]? = some a → c ≠ .dead → F a = none
  nd : ρ.Nodup
/-- the names' values -/
def rE (G : Rt) (F : Hp) (ρ : List Addr) (e : Env) (σ : St) : Prop := e.length = σ.length ∧ ∀ (i : Nat) p, e[i]? = some (some p) → ∃ v, σ[i]? = some (some v) ∧ rv G F ρ p v

section
variable {G : Rt} {F F' : Hp} {ρ ρ' : List Addr}
theorem sqT_mono {K : PySem.W.Frag} {a : Addr} {xs : List V} (h : Same F F') (q : SqT K F a xs) : SqT K F' a xs := by
  rcases q with (q | ⟨o, q⟩) | q
  · exact .inl (.inl (h _ _ q))
  · exact .inl (.inr ⟨o, h _ _ q⟩)
  · exact .inr q
theorem sqL_mono {K : PySem.W.Frag} {a : Addr} {xs : List V} (h : Same F F') (q : SqL K F a xs) : SqL K F' a xs := h.seq q
theorem rd_mono {a : Addr} {o : HO} (h : Same F F') (q : Rd F a o) : Rd F' a o := by
  rcases q with q | ⟨u, q⟩
  · exact .inl (h _ _ q)
  · exact .inr ⟨u, h _ _ q⟩
theorem pre_get {i : Nat} {a : Addr} (h : ρ <+: ρ') (q : ρ[i]? = some a) : ρ'[i]? = some a := by
  obtain ⟨t, rfl⟩ := h
  rw [List.getElem?_append_left]
  · exact q
  · exact (List.getElem?_eq_some_iff.mp q).1
mutual
theorem rv_mono (h : Same F F') (hr : ρ <+: ρ') : ∀ (p : PV) (v : V), rv G F ρ p v → rv G F' ρ' p v
  | .non, v, q => by unfold rv at q ⊢; exact q
  | .bl b, v, q => by unfold rv at q ⊢; exact q
  | .int i, v, q => by unfold rv at q ⊢; exact q
  | .str x, v, q => by unfold rv at q ⊢; exact q
  | .obj n, v, q => by unfold rv at q ⊢; exact q
  | .ex c xs, v, q => by
    unfold rv at q ⊢
    obtain ⟨hc, a, vs, e, s, r⟩ := q
    exact ⟨hc, a, vs, e, sqL_mono h s, rvs_mono h hr xs vs r⟩
  | .tup xs, v, q => by
    unfold rv at q ⊢
    obtain ⟨a, vs, e, s, r⟩ := q
    exact ⟨a, vs, e, sqT_mono h s, rvs_mono h hr xs vs r⟩
  | .lst xs, v, q => by
    unfold rv at q ⊢
    obtain ⟨a, vs, e, s, r⟩ := q
    exact ⟨a, vs, e, h _ _ s, rvs_mono h hr xs vs r⟩
  | .dct ks xs, v, q => by
    unfold rv at q ⊢
    obtain ⟨a, vs, e, s, l, n, k, r⟩ := q
    exact ⟨a, vs, e, rd_mono h s, l, n, k, rvs_mono h hr xs vs r⟩
  | .ins c xs, v, q => by
    unfold rv at q ⊢
    obtain ⟨a, dx, vs, e, s, l, r⟩ := q
    exact ⟨a, dx, vs, e, h _ _ s, l, rvs_mono h hr xs vs r⟩
  | .cell i, v, q => by
    unfold rv at q ⊢
    obtain ⟨a, e, s⟩ := q
    exact ⟨a, e, pre_get hr s⟩
theorem rvs_mono (h : Same F F') (hr : ρ <+: ρ') : ∀ (p : List PV) (v : List V), rvs G F ρ p v → rvs G F' ρ' p v
  | [], v, q => by unfold rvs at q ⊢; exact q
  | x :: xs, v, q => by
    unfold rvs at q ⊢
    obtain ⟨w, r, e, a, b⟩ := q
    exact ⟨w, r, e, rv_mono h hr x w a, rvs_mono h hr xs r b⟩
end
mutual
theorem rv_low {n : Nat} : ∀ (p : PV) (v : V), low n p = true → rv G F ρ p v → rv G F (ρ.take n) p v
  | .non, v, _, q => by unfold rv at q ⊢; exact q
  | .bl b, v, _, q => by unfold rv at q ⊢; exact q
  | .int i, v, _, q => by unfold rv at q ⊢; exact q
  | .str x, v, _, q => by unfold rv at q ⊢; exact q
  | .obj m, v, _, q => by unfold rv at q ⊢; exact q
  | .ex c xs, v, l, q => by
    unfold rv at q ⊢
    unfold low at l
    obtain ⟨hc, a, vs, e, s, r⟩ := q
    exact ⟨hc, a, vs, e, s, rvs_low xs vs l r⟩
  | .tup xs, v, l, q => by
    unfold rv at q ⊢
    unfold low at l
    obtain ⟨a, vs, e, s, r⟩ := q
    exact ⟨a, vs, e, s, rvs_low xs vs l r⟩
  | .lst xs, v, l, q => by
    unfold rv at q ⊢
    unfold low at l
    obtain ⟨a, vs, e, s, r⟩ := q
    exact ⟨a, vs, e, s, rvs_low xs vs l r⟩
  | .dct ks xs, v, l, q => by
    unfold rv at q ⊢
    unfold low at l
    obtain ⟨a, vs, e, s, z, n', k, r⟩ := q
    exact ⟨a, vs, e, s, z, n', k, rvs_low xs vs l r⟩
  | .ins c xs, v, l, q => by
    unfold rv at q ⊢
    unfold low at l
    obtain ⟨a, dx, vs, e, s, z, r⟩ := q
    exact ⟨a, dx, vs, e, s, z, rvs_low xs vs l r⟩
  | .cell i, v, l, q => by
    unfold rv at q ⊢
    unfold low at l
    obtain ⟨a, e, s⟩ := q
    refine ⟨a, e, ?_⟩
    rw [List.getElem?_take, if_pos (of_decide_eq_true l)]
    exact s
theorem rvs_low {n : Nat} : ∀ (p : List PV) (v : List V), lows n p = true → rvs G F ρ p v → rvs G F (ρ.take n) p v
  | [], v, _, q => by unfold rvs at q ⊢; exact q
  | x :: xs, v, l, q => by
    unfold rvs at q ⊢
    unfold lows at l
    obtain ⟨w, r, e, a, b⟩ := q
    have l' := Bool.and_eq_true_iff.mp l
    exact ⟨w, r, e, rv_low x w l'.1 a, rvs_low xs r l'.2 b⟩
end
theorem rE_mono {e : Env} {σ : St} (h : Same F F') (hr : ρ <+: ρ') (q : rE G F ρ e σ) : rE G F' ρ' e σ :=
  ⟨q.1, fun i p hp => let ⟨v, a, b⟩ := q.2 i p hp; ⟨v, a, rv_mono h hr p v b⟩⟩
theorem rE_get {e : Env} {σ : St} {i : Nat} {p : PV} (q : rE G F ρ e σ) (h : e[i]? = some (some p)) : ∃ v, σ[i]? = some (some v) ∧ rv G F ρ p v := q.2 i p h
theorem rE_set {e : Env} {σ : St} {i : Nat} {p : PV} {v : V} (q : rE G F ρ e σ) (h : rv G F ρ p v) : rE G F ρ (e.set i (some p)) (σ.set i (some v)) := by
  refine ⟨by simp [q.1], fun j r hj => ?_⟩
  by_cases hij : i = j
  · subst hij
    by_cases hl : i < e.length
    · rw [List.getElem?_set_self hl] at hj
      cases hj
      exact ⟨v, by rw [List.getElem?_set_self (by rw [← q.1]; exact hl)], h⟩
    · rw [List.getElem?_eq_none (by simpa using hl)] at hj
      cases hj
  · rw [List.getElem?_set_ne hij] at hj
    obtain ⟨w, a, b⟩ := q.2 j r hj
    exact ⟨w, by rw [List.getElem?_set_ne hij]; exact a, b⟩
theorem rE_wipe {e : Env} {σ : St} (q : rE G F ρ e σ) : ∀ vs : List Nat, rE G F ρ (wipeE vs e) (wipe σ vs)
  | [] => q
  | i :: r => by
    have ih := rE_wipe q r
    unfold wipeE wipe
    refine ⟨by simp [ih.1], fun j p hj => ?_⟩
    by_cases hij : i = j
    · subst hij
      by_cases hl : i < (wipeE r e).length
      · rw [List.getElem?_set_self hl] at hj; cases hj
      · rw [List.getElem?_eq_none (by simpa using hl)] at hj; cases hj
    · rw [List.getElem?_set_ne hij] at hj
      obtain ⟨w, a, b⟩ := ih.2 j p hj
      exact ⟨w, by rw [List.getElem?_set_ne hij]; exact a, b⟩
theorem rc_some {c : Cel} {o : Option HO} (r : rc G F ρ c o) : ∃ u, o = some u := by
  cases c with
  | dead => exact r
  | lst xs => obtain ⟨vs, e, _⟩ := r; exact ⟨_, e⟩
  | scr xs => obtain ⟨u, vs, e, _⟩ := r; exact ⟨_, e⟩
  | dct ks xs => obtain ⟨vs, e, _⟩ := r; exact ⟨_, e⟩
  | ins d xs => obtain ⟨dx, vs, e, _⟩ := r; exact ⟨_, e⟩
theorem rc_mono {c : Cel} {o : Option HO} (h : Same F F') (hr : ρ <+: ρ') (r : rc G F ρ c o) : rc G F' ρ' c o := by
  cases c with
  | dead => exact r
  | lst xs => obtain ⟨vs, e, r⟩ := r; exact ⟨vs, e, rvs_mono h hr _ _ r⟩
  | scr xs => obtain ⟨u, vs, e, r⟩ := r; exact ⟨u, vs, e, rvs_mono h hr _ _ r⟩
  | dct ks xs => obtain ⟨vs, e, l, n, k, r⟩ := r; exact ⟨vs, e, l, n, k, rvs_mono h hr _ _ r⟩
  | ins d xs => obtain ⟨dx, vs, e, l, r⟩ := r; exact ⟨dx, vs, e, l, rvs_mono h hr _ _ r⟩
section
variable {H : Hp} {S : Store} {p : Addr} {o : HO}
theorem SR.there (s : SR G F ρ H S) {i : Nat} {a : Addr} (h : ρ[i]? = some a) : ∃ c u, S[i]? = some c ∧ H a = some u := by
  have hl : i < S.length := by rw [← s.len]; exact (List.getElem?_eq_some_iff.mp h).1
  obtain ⟨c, hc⟩ : ∃ c, S[i]? = some c := ⟨S[i], List.getElem?_eq_getElem hl⟩
  obtain ⟨u, hu⟩ := rc_some (s.at_ i c a hc h)
  exact ⟨c, u, hc, hu⟩
theorem SR.addr (s : SR G F ρ H S) {i : Nat} {c : Cel} (h : S[i]? = some c) : ∃ a, ρ[i]? = some a := by
  have hl : i < ρ.length := by rw [s.len]; exact (List.getElem?_eq_some_iff.mp h).1
  exact ⟨ρ[i], List.getElem?_eq_getElem hl⟩
theorem SR.ne (s : SR G F ρ H S) {i : Nat} {a : Addr} (h : ρ[i]? = some a) (hp : H p = none) : a ≠ p := by
  obtain ⟨c, u, _, hu⟩ := s.there h
  exact ne_of_none hu hp
/-- a new thing that never changes -/
theorem SR.new (s : SR G F ρ H S) (hp : H p = none) (o : HO) : SR G (upd F p o) ρ (upd H p o) S ∧ Same F (upd F p o) := by
  have hF : F p = none := s.sub.free hp
  have hs : Same F (upd F p o) := fun b u e => by rw [upd_ne (ne_of_none e hF)]; exact e
  refine ⟨⟨fun b u e => ?_, s.len, fun i c a h1 h2 => ?_, fun i c a h1 h2 h3 => ?_, s.nd⟩, hs⟩
  · by_cases hb : b = p
    · subst hb; rw [upd_same] at e ⊢; exact e
    · rw [upd_ne hb] at e ⊢; exact s.sub b u e
  · rw [upd_ne (s.ne h2 hp)]
    exact rc_mono hs (List.prefix_refl _) (s.at_ i c a h1 h2)
  · rw [upd_ne (s.ne h2 hp)]
    exact s.live i c a h1 h2 h3
/-- a place of the heap that is laid and known to nobody -/
theorem SR.lay (s : SR G F ρ H S) (hp : H p = none) (o : HO) : SR G F ρ (upd H p o) S :=
  ⟨fun b u e => by rw [upd_ne (ne_of_none (s.sub b u e) hp)]; exact s.sub b u e, s.len, fun i c a h1 h2 => by rw [upd_ne (s.ne h2 hp)]; exact s.at_ i c a h1 h2, s.live, s.nd⟩
/-- a new cell -/
theorem SR.cell (s : SR G F ρ H S) (hp : H p = none) {c : Cel} (hc : rc G F (ρ ++ [p]) c (some o)) : SR G F (ρ ++ [p]) (upd H p o) (S ++ [c]) := by
  have hF : F p = none := s.sub.free hp
  have hpre : ρ <+: ρ ++ [p] := List.prefix_append _ _
  have s' := s.lay hp o
  have key : ∀ (i : Nat) c' a, (S ++ [c])[i]? = some c' → (ρ ++ [p])[i]? = some a → (S[i]? = some c' ∧ ρ[i]? = some a) ∨ (c' = c ∧ a = p) := fun i c' a h1 h2 => by
    by_cases hi : i < S.length
    · rw [List.getElem?_append_left hi] at h1
      rw [List.getElem?_append_left (by rw [s.len]; exact hi)] at h2
      exact .inl ⟨h1, h2⟩
    · rw [List.getElem?_append_right (by omega)] at h1
      rw [List.getElem?_append_right (by rw [s.len]; omega)] at h2
      have e : i - S.length = 0 := by
        have := (List.getElem?_eq_some_iff.mp h1).1
        simp at this
        omega
      rw [e] at h1
      rw [s.len, e] at h2
      simp at h1 h2
      exact .inr ⟨h1.symm, h2.symm⟩
  refine ⟨s'.sub, by simp [s.len], fun i c' a h1 h2 => ?_, fun i c' a h1 h2 h3 => ?_, ?_⟩
  · rcases key i c' a h1 h2 with ⟨q1, q2⟩ | ⟨rfl, rfl⟩
    · exact rc_mono (Same.refl _) hpre (s'.at_ i c' a q1 q2)
    · rw [upd_same]; exact hc
  · rcases key i c' a h1 h2 with ⟨q1, q2⟩ | ⟨rfl, rfl⟩
    · exact s'.live i c' a q1 q2 h3
    · exact hF
  · refine List.nodup_append.mpr ⟨s.nd, by simp, fun a ha b hb => ?_⟩
    obtain ⟨i, hi⟩ := List.getElem?_of_mem ha
    have e : b = p := by simpa using hb
    rw [e]
    exact s.ne hi hp
/-- a cell written -/
theorem SR.write (s : SR G F ρ H S) {i : Nat} {c0 c : Cel} {a : Addr} (hi : ρ[i]? = some a) (h0 : S[i]? = some c0) (hd : c0 ≠ .dead) (hc : rc G F ρ c (some o)) : SR G F ρ (upd H a o) (S.set i c) := by
  have hF : F a = none := s.live i c0 a h0 hi hd
  have inj : ∀ (j : Nat) b, ρ[j]? = some b → j ≠ i → b ≠ a := fun j b hj hne e => by
    subst e
    obtain ⟨l1, e1⟩ := List.getElem?_eq_some_iff.mp hj
    obtain ⟨l2, e2⟩ := List.getElem?_eq_some_iff.mp hi
    exact hne ((List.getElem_inj s.nd).mp (e1.trans e2.symm))
  have hl : i < S.length := (List.getElem?_eq_some_iff.mp h0).1
  refine ⟨fun b u e => by rw [upd_ne (ne_of_none e hF)]; exact s.sub b u e, by simp [s.len], fun j c' b h1 h2 => ?_, fun j c' b h1 h2 h3 => ?_, s.nd⟩
  · by_cases hj : i = j
    · subst hj
      rw [List.getElem?_set_self hl] at h1
      cases h1
      rw [hi] at h2
      cases h2
      rw [upd_same]; exact hc
    · rw [List.getElem?_set_ne hj] at h1
      rw [upd_ne (inj j b h2 (Ne.symm hj))]
      exact s.at_ j c' b h1 h2
  · by_cases hj : i = j
    · subst hj
      rw [hi] at h2
      cases h2
      exact hF
    · rw [List.getElem?_set_ne hj] at h1
      exact s.live j c' b h1 h2 h3
/-- a cell that changes no more -/
theorem SR.freeze (s : SR G F ρ H S) {i : Nat} {c0 : Cel} {a : Addr} (hi : ρ[i]? = some a) (h0 : S[i]? = some c0) (hd : c0 ≠ .dead) (ho : H a = some o) : SR G (upd F a o) ρ H (S.set i .dead) ∧ Same F (upd F a o) := by
  have hF : F a = none := s.live i c0 a h0 hi hd
  have hs : Same F (upd F a o) := fun b u e => by rw [upd_ne (ne_of_none e hF)]; exact e
  have inj : ∀ (j : Nat) b, ρ[j]? = some b → j ≠ i → b ≠ a := fun j b hj hne e => by
    subst e
    obtain ⟨l1, e1⟩ := List.getElem?_eq_some_iff.mp hj
    obtain ⟨l2, e2⟩ := List.getElem?_eq_some_iff.mp hi
    exact hne ((List.getElem_inj s.nd).mp (e1.trans e2.symm))
  have hl : i < S.length := (List.getElem?_eq_some_iff.mp h0).1
  refine ⟨⟨fun b u e => ?_, by simp [s.len], fun j c' b h1 h2 => ?_, fun j c' b h1 h2 h3 => ?_, s.nd⟩, hs⟩
  · by_cases hb : b = a
    · subst hb; rw [upd_same] at e; cases e; exact ho
    · rw [upd_ne hb] at e; exact s.sub b u e
  · by_cases hj : i = j
    · subst hj
      rw [List.getElem?_set_self hl] at h1
      cases h1
      rw [hi] at h2
      cases h2
      exact ⟨o, ho⟩
    · rw [List.getElem?_set_ne hj] at h1
      exact rc_mono hs (List.prefix_refl _) (s.at_ j c' b h1 h2)
  · by_cases hj : i = j
    · subst hj
      rw [List.getElem?_set_self hl] at h1
      cases h1
      exact absurd rfl h3
    · rw [List.getElem?_set_ne hj] at h1
      rw [upd_ne (inj j b h2 (Ne.symm hj))]
      exact s.live j c' b h1 h2 h3
/-- the first n cells alone -/
theorem SR.take (s : SR G F ρ H S) (n : Nat) (hl : ∀ (i : Nat) c a, i < n → S[i]? = some c → ρ[i]? = some a → rc G F (ρ.take n) c (H a)) : SR G F (ρ.take n) H (S.take n) := by
  refine ⟨s.sub, by simp [s.len], fun i c a h1 h2 => ?_, fun i c a h1 h2 h3 => ?_, s.nd.sublist (List.take_sublist _ _)⟩
  · rw [List.getElem?_take] at h1 h2
    by_cases hi : i < n
    · rw [if_pos hi] at h1 h2; exact hl i c a hi h1 h2
    · rw [if_neg hi] at h1; cases h1
  · rw [List.getElem?_take] at h1 h2
    by_cases hi : i < n
    · rw [if_pos hi] at h1 h2; exact s.live i c a h1 h2 h3
    · rw [if_neg hi] at h1; cases h1
end
/-- the first n cells alone, where they hold none of the others -/
theorem SR.cut (s : SR G F ρ H S) (n : Nat) (hl : (S.take n).all (lowC n) = true) : SR G F (ρ.take n) H (S.take n) := by
  refine s.take n fun i c a hi h1 h2 => ?_
  have hm : c ∈ S.take n := by
    refine List.mem_of_getElem? (i := i) ?_
    rw [List.getElem?_take, if_pos hi]; exact h1
  have hc := List.all_eq_true.mp hl c hm
  have r := s.at_ i c a h1 h2
  cases c with
  | dead => exact r
  | lst xs => obtain ⟨vs, e, r⟩ := r; exact ⟨vs, e, rvs_low _ _ hc r⟩
  | scr xs => obtain ⟨u, vs, e, r⟩ := r; exact ⟨u, vs, e, rvs_low _ _ hc r⟩
  | dct ks xs => obtain ⟨vs, e, l, n', k, r⟩ := r; exact ⟨vs, e, l, n', k, rvs_low _ _ hc r⟩
  | ins d xs => obtain ⟨dx, vs, e, l, r⟩ := r; exact ⟨dx, vs, e, l, rvs_low _ _ hc r⟩
end
/-- behind a step: what was frozen is so, the cells are the first ones, and what is nobody's stands as it stood -/
structure Ext (F : Hp) (ρ : List Addr) (H : Hp) (F' : Hp) (ρ' : List Addr) (H' : Hp) : Prop where
  s : Same F F'
  r : ρ <+: ρ'
  k : ∀ a o, H a = some o → F a = none → a ∉ ρ → H' a = some o ∧ F' a = none ∧ a ∉ ρ'
section
variable {G : Rt} {F F1 F2 : Hp} {ρ ρ1 ρ2 : List Addr} {H H1 H2 : Hp} {S : Store}
theorem Ext.refl : Ext F ρ H F ρ H := ⟨Same.refl _, List.prefix_refl _, fun a o h1 h2 h3 => ⟨h1, h2, h3⟩⟩
theorem Ext.trans (a : Ext F ρ H F1 ρ1 H1) (b : Ext F1 ρ1 H1 F2 ρ2 H2) : Ext F ρ H F2 ρ2 H2 :=
  ⟨a.s.trans b.s, a.r.trans b.r, fun c o h1 h2 h3 => let ⟨k1, k2, k3⟩ := a.k c o h1 h2 h3; b.k c o k1 k2 k3⟩
theorem rv_ext (x : Ext F ρ H F1 ρ1 H1) (p : PV) (v : V) (h : rv G F ρ p v) : rv G F1 ρ1 p v := rv_mono x.s x.r p v h
theorem rvs_ext (x : Ext F ρ H F1 ρ1 H1) (p : List PV) (v : List V) (h : rvs G F ρ p v) : rvs G F1 ρ1 p v := rvs_mono x.s x.r p v h
theorem rE_ext (x : Ext F ρ H F1 ρ1 H1) {e : Env} {σ : L2.St} (h : rE G F ρ e σ) : rE G F1 ρ1 e σ := rE_mono x.s x.r h
theorem SR.newX (s : SR G F ρ H S) {p : Addr} (hp : H p = none) (o : HO) : SR G (upd F p o) ρ (upd H p o) S ∧ Ext F ρ H (upd F p o) ρ (upd H p o) := by
  obtain ⟨s1, h1⟩ := s.new hp o
  exact ⟨s1, h1, List.prefix_refl _, fun a u e1 e2 e3 => by rw [upd_ne (ne_of_none e1 hp), upd_ne (ne_of_none e1 hp)]; exact ⟨e1, e2, e3⟩⟩
theorem SR.layX (s : SR G F ρ H S) {p : Addr} (hp : H p = none) (o : HO) : SR G F ρ (upd H p o) S ∧ Ext F ρ H F ρ (upd H p o) :=
  ⟨s.lay hp o, Same.refl _, List.prefix_refl _, fun a u e1 e2 e3 => by rw [upd_ne (ne_of_none e1 hp)]; exact ⟨e1, e2, e3⟩⟩
theorem SR.cellX (s : SR G F ρ H S) {p : Addr} {o : HO} (hp : H p = none) {c : Cel} (hc : rc G F (ρ ++ [p]) c (some o)) : SR G F (ρ ++ [p]) (upd H p o) (S ++ [c]) ∧ Ext F ρ H F (ρ ++ [p]) (upd H p o) :=
  ⟨s.cell hp hc, Same.refl _, List.prefix_append _ _, fun a u e1 e2 e3 => by
    rw [upd_ne (ne_of_none e1 hp)]
    refine ⟨e1, e2, fun h => ?_⟩
    rcases List.mem_append.mp h with h | h
    · exact e3 h
    · have : a = p := by simpa using h
      subst this
      rw [hp] at e1; cases e1⟩
theorem SR.writeX (s : SR G F ρ H S) {i : Nat} {c0 c : Cel} {a : Addr} {o : HO} (hi : ρ[i]? = some a) (h0 : S[i]? = some c0) (hd : c0 ≠ .dead) (hc : rc G F ρ c (some o)) : SR G F ρ (upd H a o) (S.set i c) ∧ Ext F ρ H F ρ (upd H a o) :=
  ⟨s.write hi h0 hd hc, Same.refl _, List.prefix_refl _, fun b u e1 e2 e3 => by
    have : b ≠ a := fun e => e3 (by rw [e]; exact List.mem_of_getElem? hi)
    rw [upd_ne this]; exact ⟨e1, e2, e3⟩⟩
theorem SR.freezeX (s : SR G F ρ H S) {i : Nat} {c0 : Cel} {a : Addr} {o : HO} (hi : ρ[i]? = some a) (h0 : S[i]? = some c0) (hd : c0 ≠ .dead) (ho : H a = some o) : SR G (upd F a o) ρ H (S.set i .dead) ∧ Ext F ρ H (upd F a o) ρ H := by
  obtain ⟨s1, h1⟩ := s.freeze hi h0 hd ho
  refine ⟨s1, h1, List.prefix_refl _, fun b u e1 e2 e3 => ?_⟩
  have : b ≠ a := fun e => e3 (by rw [e]; exact List.mem_of_getElem? hi)
  rw [upd_ne this]; exact ⟨e1, e2, e3⟩
end
end Ev
set_option Elab.async false
set_option linter.all false
set_option maxRecDepth 100000
/-! E2: readings by the evaluator; names, constants, operators by their values, truth. -/
namespace Ev
open PySem L2
open PyProof.Rows hiding St
abbrev Slots := L2.St

/-- a raised exception, as a value -/
def rx (G : Rt) (F : Hp) (ρ : List Addr) (e : PV) (cls : Value) (d : Option Addr) : Prop := False
theorem rx_ext {G : Rt} {F F' H H' : Hp} {ρ ρ' : List Addr} {e : PV} {cls : Value} {d : Option Addr} (h : Ext F ρ H F' ρ' H') (q : rx G F ρ e cls d) : rx G F' ρ' e cls d := q

/-- what the evaluator says is wanted -/
def Post {α β : Type} (G : Rt) (F : Hp) (ρ : List Addr) (H : Hp) (r : R α) (rel : Hp → List Addr → α → β → Prop) (Q : β → Hp → Prop) (W : XK) : Prop :=
  match r with
  | .ok a S => ∀ F' ρ' H' b, Ext F ρ H F' ρ' H' → SR G F' ρ' H' S → rel F' ρ' a b → Q b H'
  | .exc e S => ∀ F' ρ' H' cls d, Ext F ρ H F' ρ' H' → SR G F' ρ' H' S → rx G F' ρ' e cls d → W cls d H'
  | .bad => False
section
variable {α β γ : Type} {G : Rt} {F F' : Hp} {ρ ρ' : List Addr} {H H' : Hp} {r : R α} {rel : Hp → List Addr → α → β → Prop} {Q : β → Hp → Prop} {W : XK}
theorem Post.mono (x : Ext F ρ H F' ρ' H') (p : Post G F ρ H r rel Q W) : Post G F' ρ' H' r rel Q W := by
  cases r with
  | ok a S => exact fun F2 ρ2 H2 b y s q => p F2 ρ2 H2 b (x.trans y) s q
  | exc e S => exact fun F2 ρ2 H2 c d y s q => p F2 ρ2 H2 c d (x.trans y) s q
  | bad => exact p
theorem Post.ok {a : α} {S : Store} {b : β} (p : Post G F ρ H (.ok a S) rel Q W) (s : SR G F ρ H S) (q : rel F ρ a b) : Q b H :=
  p F ρ H b .refl s q
theorem Post.okx {a : α} {S : Store} {b : β} (p : Post G F ρ H (.ok a S) rel Q W) (x : Ext F ρ H F' ρ' H') (s : SR G F' ρ' H' S) (q : rel F' ρ' a b) : Q b H' :=
  p F' ρ' H' b x s q
end

def tE (G : Rt) (W : WX) (x : Env → Store → R PV) : TE := fun σ H Q => ∃ F ρ e S, SR G F ρ H S ∧ rE G F ρ e σ ∧ Post G F ρ H (x e S) (rv G) Q (fun cls d H' => W cls d σ H')
def truR (x : Env → Store → R PV) : Env → Store → R Bool := fun e S => (x e S).bind fun p S => opt (tru S p) S
def relB : Hp → List Addr → Bool → Bool → Prop := fun _ _ a b => a = b
def tT (G : Rt) (W : WX) (x : Env → Store → R PV) : TT := fun σ H Q => ∃ F ρ e S, SR G F ρ H S ∧ rE G F ρ e σ ∧ Post G F ρ H (truR x e S) relB Q (fun cls d H' => W cls d σ H')
def tL (G : Rt) (W : WX) (x : Env → Store → R (List PV)) : TA := fun σ H Q => ∃ F ρ e S, SR G F ρ H S ∧ rE G F ρ e σ ∧ Post G F ρ H (x e S) (rvs G) Q (fun cls d H' => W cls d σ H')

section
variable {G : Rt} {X : Cx} {W : WX} {pins : List (Addr × Obj)} {σ : Slots} {H : Hp} {s : Shared} {F : Hp} {ρ : List Addr} {e : Env} {S : Store} {β γ : Type} {rel : Hp → List Addr → γ → β → Prop} {Q : β → Hp → Prop}
/-- an expression, then what follows -/
theorem stepE {a : Expr} {x : Env → Store → R PV} (h : PE X a (tE G W x)) (I : Inv X pins σ H s) (hS : SR G F ρ H S) (hE : rE G F ρ e σ) {f : PV → Store → R γ}
    (hP : Post G F ρ H ((x e S).bind f) rel Q (fun cls d H' => W cls d σ H')) {P : Value → Shared → Prop}
    (k : ∀ p S1 F1 ρ1 H1 v u s1, Inv X pins σ H1 s1 → RelV v u → SR G F1 ρ1 H1 S1 → Ext F ρ H F1 ρ1 H1 → rE G F1 ρ1 e σ → rv G F1 ρ1 p v → Post G F1 ρ1 H1 (f p S1) rel Q (fun cls d H' => W cls d σ H') → P u s1) :
    wpAny (model X.prog X.w) X.A (eval a X.env) P X.xe s := by
  refine thn (h.run pins s σ H (fun v H1 => ∃ p S1 F1 ρ1, SR G F1 ρ1 H1 S1 ∧ Ext F ρ H F1 ρ1 H1 ∧ rv G F1 ρ1 p v ∧ Post G F1 ρ1 H1 (f p S1) rel Q (fun cls d H' => W cls d σ H')) I ⟨F, ρ, e, S, hS, hE, ?_⟩) fun u s1 ⟨v, H1, I1, r, p, S1, F1, ρ1, a1, a2, a4, a5⟩ => k p S1 F1 ρ1 H1 v u s1 I1 r a1 a2 (rE_ext a2 hE) a4 a5
  cases hx : x e S with
  | ok p S1 =>
    rw [hx] at hP
    exact fun F1 ρ1 H1 v x1 s1 q => ⟨p, S1, F1, ρ1, s1, x1, q, Post.mono x1 hP⟩
  | exc z S1 => rw [hx] at hP; exact hP
  | bad => rw [hx] at hP; exact hP.elim
theorem stepL {a : List Expr} {x : Env → Store → R (List PV)} (h : PA X a (tL G W x)) (I : Inv X pins σ H s) (hS : SR G F ρ H S) (hE : rE G F ρ e σ) {f : List PV → Store → R γ}
    (hP : Post G F ρ H ((x e S).bind f) rel Q (fun cls d H' => W cls d σ H')) {P : List Value → Shared → Prop} (pos : Pos)
    (k : ∀ p S1 F1 ρ1 H1 v u s1, Inv X pins σ H1 s1 → Vals v u → SR G F1 ρ1 H1 S1 → Ext F ρ H F1 ρ1 H1 → rE G F1 ρ1 e σ → rvs G F1 ρ1 p v → Post G F1 ρ1 H1 (f p S1) rel Q (fun cls d H' => W cls d σ H') → P u s1) :
    wpAny (model X.prog X.w) X.A (spliced (backTo pos (starEach a X.env))) P X.xe s := by
  refine thn (h.run pos pins s σ H (fun v H1 => ∃ p S1 F1 ρ1, SR G F1 ρ1 H1 S1 ∧ Ext F ρ H F1 ρ1 H1 ∧ rvs G F1 ρ1 p v ∧ Post G F1 ρ1 H1 (f p S1) rel Q (fun cls d H' => W cls d σ H')) I ⟨F, ρ, e, S, hS, hE, ?_⟩) fun u s1 ⟨v, H1, I1, r, p, S1, F1, ρ1, a1, a2, a4, a5⟩ => k p S1 F1 ρ1 H1 v u s1 I1 r a1 a2 (rE_ext a2 hE) a4 a5
  cases hx : x e S with
  | ok p S1 =>
    rw [hx] at hP
    exact fun F1 ρ1 H1 v x1 s1 q => ⟨p, S1, F1, ρ1, s1, x1, q, Post.mono x1 hP⟩
  | exc z S1 => rw [hx] at hP; exact hP
  | bad => rw [hx] at hP; exact hP.elim
/-- a test, then what follows -/
theorem stepT {a : Expr} {x : Env → Store → R PV} (h : PT X a (tT G W x)) (I : Inv X pins σ H s) (hS : SR G F ρ H S) (hE : rE G F ρ e σ) {f : Bool → Store → R γ}
    (hP : Post G F ρ H ((truR x e S).bind f) rel Q (fun cls d H' => W cls d σ H')) {P : Bool → Shared → Prop}
    (k : ∀ b S1 F1 ρ1 H1 s1, Inv X pins σ H1 s1 → SR G F1 ρ1 H1 S1 → Ext F ρ H F1 ρ1 H1 → rE G F1 ρ1 e σ → Post G F1 ρ1 H1 (f b S1) rel Q (fun cls d H' => W cls d σ H') → P b s1) :
    wpAny (model X.prog X.w) X.A (isTrue a X.env (eval a X.env)) P X.xe s := by
  refine thn (h.run pins s σ H (fun b H1 => ∃ S1 F1 ρ1, SR G F1 ρ1 H1 S1 ∧ Ext F ρ H F1 ρ1 H1 ∧ Post G F1 ρ1 H1 (f b S1) rel Q (fun cls d H' => W cls d σ H')) I ⟨F, ρ, e, S, hS, hE, ?_⟩) fun b s1 ⟨H1, I1, S1, F1, ρ1, a1, a2, a5⟩ => k b S1 F1 ρ1 H1 s1 I1 a1 a2 (rE_ext a2 hE) a5
  cases hx : truR x e S with
  | ok p S1 =>
    rw [hx] at hP
    exact fun F1 ρ1 H1 v x1 s1 q => ⟨S1, F1, ρ1, s1, x1, by cases q; exact Post.mono x1 hP⟩
  | exc z S1 => rw [hx] at hP; exact hP
  | bad => rw [hx] at hP; exact hP.elim

/-! ### operators by values -/
/-- f does on values what g says -/
def Op2 (G : Rt) (X : Cx) (W : WX) (f : Value → Value → Sem Value) (g : PV → PV → Store → R PV) : Prop :=
  ∀ (pins : List (Addr × Obj)) (s : Shared) (σ : Slots) (H : Hp) (x y : V) (v u : Value) (Q : VK) (F : Hp) (ρ : List Addr) (S : Store) (p q : PV), Inv X pins σ H s → RelV x v → RelV y u → SR G F ρ H S → rv G F ρ p x → rv G F ρ q y →
    Post G F ρ H (g p q S) (rv G) Q (fun cls d H' => W cls d σ H') → wpAny (model X.prog X.w) X.A (f v u) (EP X pins σ Q) X.xe s
def Op1 (G : Rt) (X : Cx) (W : WX) (f : Value → Sem Value) (g : PV → Store → R PV) : Prop :=
  ∀ (pins : List (Addr × Obj)) (s : Shared) (σ : Slots) (H : Hp) (x : V) (v : Value) (Q : VK) (F : Hp) (ρ : List Addr) (S : Store) (p : PV), Inv X pins σ H s → RelV x v → SR G F ρ H S → rv G F ρ p x →
    Post G F ρ H (g p S) (rv G) Q (fun cls d H' => W cls d σ H') → wpAny (model X.prog X.w) X.A (f v) (EP X pins σ Q) X.xe s
/-- a call by values -/
def OpN (G : Rt) (X : Cx) (W : WX) (f : Value) (g : List PV → Store → R PV) : Prop :=
  ∀ (pins : List (Addr × Obj)) (s : Shared) (σ : Slots) (H : Hp) (xs : List V) (us : List Value) (Q : VK) (F : Hp) (ρ : List Addr) (S : Store) (ps : List PV), Inv X pins σ H s → Vals xs us → SR G F ρ H S → rvs G F ρ ps xs →
    Post G F ρ H (g ps S) (rv G) Q (fun cls d H' => W cls d σ H') → wpAny (model X.prog X.w) X.A (call f us) (EP X pins σ Q) X.xe s

section
variable {a b c : Expr} {x y z : Env → Store → R PV} {pos : Pos}
theorem se_bin {op : Operator} {g : PV → PV → Store → R PV} (ho : Op2 G X W (binaryOp op) g) (ha : PE X a (tE G W x)) (hb : PE X b (tE G W y)) :
    PE X (.BinOp a op b pos) (tE G W fun e S => (x e S).bind fun p S => (y e S).bind fun q S => g p q S) := by
  refine ⟨fun pins s σ H Q I ⟨F, ρ, e, S, hS, hE, hP⟩ => ?_⟩
  refine wpAny_BinOp (stepE ha I hS hE hP fun p S1 F1 ρ1 H1 v u s1 I1 r1 hS1 x1 hE1 q1 hP1 => ?_)
  refine stepE hb I1 hS1 hE1 hP1 fun q S2 F2 ρ2 H2 v2 u2 s2 I2 r2 hS2 x2 hE2 q2 hP2 => ?_
  exact ho pins s2 σ H2 v v2 u u2 Q F2 ρ2 S2 p q I2 r1 r2 hS2 (rv_ext x2 _ _ q1) q2 hP2
theorem se_un {op : UnaryOp} {g : PV → Store → R PV} (ho : Op1 G X W (unaryOp op) g) (ha : PE X a (tE G W x)) :
    PE X (.UnaryOp op a pos) (tE G W fun e S => (x e S).bind fun p S => g p S) := by
  refine ⟨fun pins s σ H Q I ⟨F, ρ, e, S, hS, hE, hP⟩ => ?_⟩
  refine UnaryOp_ (stepE ha I hS hE hP fun p S1 F1 ρ1 H1 v u s1 I1 r1 hS1 x1 hE1 q1 hP1 => ?_)
  exact ho pins s1 σ H1 v u Q F1 ρ1 S1 p I1 r1 hS1 q1 hP1
theorem se_cmp {op : CmpOp} {g : PV → PV → Store → R PV} (ho : Op2 G X W (compareOp op) g) (ha : PE X a (tE G W x)) (hb : PE X b (tE G W y)) (hm : behindInMarks op b = false) :
    PE X (.Compare a [op] [b] pos) (tE G W fun e S => (x e S).bind fun p S => (y e S).bind fun q S => g p q S) := by
  refine ⟨fun pins s σ H Q I ⟨F, ρ, e, S, hS, hE, hP⟩ => ?_⟩
  refine wpAny_Compare1 (stepE ha I hS hE hP fun p S1 F1 ρ1 H1 v u s1 I1 r1 hS1 x1 hE1 q1 hP1 => ?_) hm
  refine stepE hb I1 hS1 hE1 hP1 fun q S2 F2 ρ2 H2 v2 u2 s2 I2 r2 hS2 x2 hE2 q2 hP2 => ?_
  exact ho pins s2 σ H2 v v2 u u2 Q F2 ρ2 S2 p q I2 r1 r2 hS2 (rv_ext x2 _ _ q1) q2 hP2
end
/-! ### truth of a value -/
theorem tru_V {p : PV} {v : V} {b : Bool} (hS : SR G F ρ H S) (hv : rv G F ρ p v) (h : tru S p = some b) (hK : X.K = G.K) : TruV X.K v H b := by
  cases p with
  | non => unfold rv at hv; subst hv; cases h; rfl
  | bl k => unfold rv at hv; subst hv; cases h; rfl
  | int i => unfold rv at hv; subst hv; cases h; rfl
  | str x =>
    unfold rv at hv
    obtain ⟨rfl, hx⟩ := hv
    cases h
    refine ⟨?_, ?_⟩
    · show x.length ≤ sizeLine
      exact Nat.le_trans (okS_len hx) lim_line
    · show (!x.isEmpty) = (((x.length : Nat) : Int) != 0)
      cases x <;> rfl
  | tup xs =>
    unfold rv at hv
    obtain ⟨a, vs, rfl, q, r⟩ := hv
    cases h
    refine .inr (.inl ⟨vs, by rw [hK]; exact sqT_mono hS.sub q, ?_⟩)
    cases xs with
    | nil => unfold rvs at r; subst r; rfl
    | cons _ _ => unfold rvs at r; obtain ⟨_, _, rfl, _⟩ := r; rfl
  | lst xs =>
    unfold rv at hv
    obtain ⟨a, vs, rfl, q, r⟩ := hv
    cases h
    refine .inl ⟨vs, .inl (.inl (hS.sub _ _ q)), ?_⟩
    cases xs with
    | nil => unfold rvs at r; subst r; rfl
    | cons _ _ => unfold rvs at r; obtain ⟨_, _, rfl, _⟩ := r; rfl
  | dct ks xs => cases h
  | ins c xs => cases h
  | obj n => cases h
  | ex c xs => cases h
  | cell i =>
    unfold rv at hv
    obtain ⟨a, rfl, hi⟩ := hv
    obtain ⟨c, u, hc, hu⟩ := hS.there hi
    simp only [tru, hc] at h
    cases c with
    | lst xs =>
      cases h
      obtain ⟨vs, e1, r⟩ := hS.at_ i _ a hc hi
      refine .inl ⟨vs, .inl (.inl e1), ?_⟩
      cases xs with
      | nil => unfold rvs at r; subst r; rfl
      | cons _ _ => unfold rvs at r; obtain ⟨_, _, rfl, _⟩ := r; rfl
    | dct ks xs => cases h
    | scr xs => cases h
    | ins c xs => cases h
    | dead => cases h
end
end Ev
set_option Elab.async false
set_option linter.all false
set_option maxRecDepth 100000
/-! E3: names, constants, and, or, not, if, comparisons, chains. -/
namespace Ev
open PySem L2
open PyProof.Rows hiding St

def andE (x y : Env → Store → R PV) : Env → Store → R PV := fun e S => (x e S).bind fun p S => match tru S p with
  | none => .bad
  | some true => y e S
  | some false => .ok p S
def orE (x y : Env → Store → R PV) : Env → Store → R PV := fun e S => (x e S).bind fun p S => match tru S p with
  | none => .bad
  | some false => y e S
  | some true => .ok p S
def notE (x : Env → Store → R PV) : Env → Store → R PV := fun e S => (x e S).bind fun p S => match tru S p with
  | none => .bad
  | some b => .ok (.bl (!b)) S
def iteE (z x y : Env → Store → R PV) : Env → Store → R PV := fun e S => (z e S).bind fun p S => match tru S p with
  | none => .bad
  | some true => x e S
  | some false => y e S
theorem truR_and (x y : Env → Store → R PV) (e : Env) (S : Store) : truR (andE x y) e S = (truR x e S).bind fun b S => if b = true then truR y e S else .ok false S := by
  unfold truR andE
  cases x e S with
  | ok p S1 =>
    simp only [bind_ok]
    cases h : tru S1 p with
    | none => rfl
    | some b =>
      cases b with
      | true => rfl
      | false => show (R.ok p S1).bind _ = _; simp only [bind_ok, h, opt_some]; rfl
  | exc z S1 => rfl
  | bad => rfl
theorem truR_or (x y : Env → Store → R PV) (e : Env) (S : Store) : truR (orE x y) e S = (truR x e S).bind fun b S => if b = true then .ok true S else truR y e S := by
  unfold truR orE
  cases x e S with
  | ok p S1 =>
    simp only [bind_ok]
    cases h : tru S1 p with
    | none => rfl
    | some b =>
      cases b with
      | false => rfl
      | true => show (R.ok p S1).bind _ = _; simp only [bind_ok, h, opt_some]; rfl
  | exc z S1 => rfl
  | bad => rfl
theorem truR_not (x : Env → Store → R PV) (e : Env) (S : Store) : truR (notE x) e S = (truR x e S).bind fun b S => .ok (!b) S := by
  unfold truR notE
  cases x e S with
  | ok p S1 =>
    simp only [bind_ok]
    cases h : tru S1 p with
    | none => rfl
    | some b => rfl
  | exc z S1 => rfl
  | bad => rfl
theorem truR_ite (z x y : Env → Store → R PV) (e : Env) (S : Store) : truR (iteE z x y) e S = (truR z e S).bind fun b S => if b = true then truR x e S else truR y e S := by
  unfold truR iteE
  cases z e S with
  | ok p S1 =>
    simp only [bind_ok]
    cases h : tru S1 p with
    | none => rfl
    | some b => cases b <;> rfl
  | exc z S1 => rfl
  | bad => rfl
theorem ite_tru (z x y : Env → Store → R PV) (e : Env) (S : Store) : iteE z x y e S = (truR z e S).bind fun b S => if b = true then x e S else y e S := by
  unfold truR iteE
  cases z e S with
  | ok p S1 =>
    simp only [bind_ok]
    cases h : tru S1 p with
    | none => rfl
    | some b => cases b <;> rfl
  | exc z S1 => rfl
  | bad => rfl

section
variable {G : Rt} {X : Cx} {W : WX} {pins : List (Addr × Obj)} {σ : Slots} {H : Hp} {s : Shared} {F : Hp} {ρ : List Addr} {e : Env} {S : Store}
theorem se_var {i : Nat} {x : Str} {pos : Pos} (hN : X.N[i]? = some x) (hv : Vis X.env.scope x) (hd : (x == ("__debug__" : Str)) = false) (hcd : (x == ("__classdict__" : Str)) = false) :
    PE X (.Name x pos) (tE G W fun e S => match e[i]? with
      | some (some p) => .ok p S
      | _ => .bad) := by
  refine ⟨fun pins s σ H Q I ⟨F, ρ, e, S, hS, hE, hP⟩ => (pe_var hN hv hd hcd).run pins s σ H Q I ?_⟩
  cases h : e[i]? with
  | none => simp only [h] at hP; exact hP.elim
  | some o =>
    simp only [h] at hP
    cases o with
    | none => exact hP.elim
    | some p =>
      obtain ⟨v, hv, q⟩ := hE.2 i p h
      exact ⟨v, hv, hP.ok hS q⟩
theorem se_k {c : Expr} {p : PV} {v : V} (h : PE X c (tC v)) (hr : ∀ F ρ, rv G F ρ p v) : PE X c (tE G W fun _ S => .ok p S) :=
  ⟨fun pins s σ H Q I ⟨F, ρ, e, S, hS, hE, hP⟩ => h.run pins s σ H Q I (hP.ok hS (hr F ρ))⟩
theorem none_same {F : Hp} : Same (fun _ => none) F := fun _ _ h => by cases h
theorem se_glob {x : Str} {p : PV} {v : V} {u : Value} {pos : Pos} (hg : Gl X x) (hm : X.mg x = some u) (r : RelV v u) (hr : rv G (fun _ => none) [] p v) (hd : (x == ("__debug__" : Str)) = false) : PE X (.Name x pos) (tE G W fun _ S => .ok p S) :=
  se_k (pe_glob hg hm r hd) fun F ρ => rv_mono none_same (List.nil_prefix) p v hr
/-- the truth of a value -/
theorem truW {p : PV} {v : V} {u : Value} {b : Bool} (hK : X.K = G.K) (I : Inv X pins σ H s) (r : RelV v u) (hS : SR G F ρ H S) (q : rv G F ρ p v) (h : tru S p = some b) {P : Bool → Shared → Prop} (k : ∀ s1, Inv X pins σ H s1 → P b s1) :
    wpAny (model X.prog X.w) X.A (truthy u) P X.xe s := by
  refine thn (tru_ok pins s σ H v u (fun c H2 => c = b ∧ H2 = H) I r ⟨b, tru_V hS q h hK, rfl, rfl⟩) fun c s2 ⟨H2, I2, e1, e2⟩ => ?_
  subst e1; subst e2
  exact k s2 I2
section
variable {a b c : Expr} {x y z : Env → Store → R PV} {pos : Pos}
theorem pt_plain (hK : X.K = G.K) (ha : PE X a (tE G W x)) (he : ∀ whole, isTrue a X.env whole = (do let v ← whole; standAt a.pos; holding [v] (truthy v))) : PT X a (tT G W x) := by
  refine ⟨fun pins s σ H Q I ⟨F, ρ, e, S, hS, hE, hP⟩ => ?_⟩
  refine isTrue_plain (stepE ha I hS hE hP fun p S1 F1 ρ1 H1 v u s1 I1 r1 hS1 x1 hE1 q1 hP1 => ?_) (he _)
  cases h : tru S1 p with
  | none => rw [h] at hP1; exact hP1.elim
  | some b =>
    rw [h] at hP1
    exact truW hK I1 r1 hS1 q1 h fun s2 I2 => ⟨H1, I2, hP1.ok hS1 rfl⟩
theorem se_one {op} (ha : PE X a (tE G W x)) : PE X (.BoolOp op [a] pos) (tE G W x) := pe_one ha
theorem se_and {rest : List Expr} (hK : X.K = G.K) (ha : PE X a (tE G W x)) (hb : PE X (.BoolOp .And (b :: rest) pos) (tE G W y)) : PE X (.BoolOp .And (a :: b :: rest) pos) (tE G W (andE x y)) := by
  refine ⟨fun pins s σ H Q I ⟨F, ρ, e, S, hS, hE, hP⟩ => ?_⟩
  refine BoolOp_and (stepE ha I hS hE hP fun p S1 F1 ρ1 H1 v u s1 I1 r1 hS1 x1 hE1 q1 hP1 => ?_)
  cases h : tru S1 p with
  | none => rw [h] at hP1; exact hP1.elim
  | some k =>
    rw [h] at hP1
    refine truW hK I1 r1 hS1 q1 h fun s2 I2 => ?_
    cases k with
    | true => exact hb.run pins s2 σ H1 Q I2 ⟨F1, ρ1, e, S1, hS1, hE1, hP1⟩
    | false => exact ⟨v, H1, I2, r1, hP1.ok hS1 q1⟩
theorem se_or {rest : List Expr} (hK : X.K = G.K) (ha : PE X a (tE G W x)) (hb : PE X (.BoolOp .Or (b :: rest) pos) (tE G W y)) : PE X (.BoolOp .Or (a :: b :: rest) pos) (tE G W (orE x y)) := by
  refine ⟨fun pins s σ H Q I ⟨F, ρ, e, S, hS, hE, hP⟩ => ?_⟩
  refine BoolOp_or (stepE ha I hS hE hP fun p S1 F1 ρ1 H1 v u s1 I1 r1 hS1 x1 hE1 q1 hP1 => ?_)
  cases h : tru S1 p with
  | none => rw [h] at hP1; exact hP1.elim
  | some k =>
    rw [h] at hP1
    refine truW hK I1 r1 hS1 q1 h fun s2 I2 => ?_
    cases k with
    | false => exact hb.run pins s2 σ H1 Q I2 ⟨F1, ρ1, e, S1, hS1, hE1, hP1⟩
    | true => exact ⟨v, H1, I2, r1, hP1.ok hS1 q1⟩
theorem pw_one {op} (ha : PT X a (tT G W x)) : PW X (.BoolOp op [a] pos) (tT G W x) := by
  cases op with
  | And => exact pw_and1 ha
  | Or => exact pw_or1 ha
theorem sw_and {rest : List Expr} (ha : PT X a (tT G W x)) (hb : PW X (.BoolOp .And (b :: rest) pos) (tT G W y)) : PW X (.BoolOp .And (a :: b :: rest) pos) (tT G W (andE x y)) := by
  refine ⟨fun wh pins s σ H Q I ⟨F, ρ, e, S, hS, hE, hP⟩ => ?_⟩
  rw [truR_and] at hP
  refine isTrue_and (stepT ha I hS hE hP fun k S1 F1 ρ1 H1 s1 I1 hS1 x1 hE1 hP1 => ?_)
  cases k with
  | true => exact hb.run wh pins s1 σ H1 Q I1 ⟨F1, ρ1, e, S1, hS1, hE1, hP1⟩
  | false => exact ⟨H1, I1, Post.ok (a := false) (b := false) hP1 hS1 rfl⟩
theorem sw_or {rest : List Expr} (ha : PT X a (tT G W x)) (hb : PW X (.BoolOp .Or (b :: rest) pos) (tT G W y)) : PW X (.BoolOp .Or (a :: b :: rest) pos) (tT G W (orE x y)) := by
  refine ⟨fun wh pins s σ H Q I ⟨F, ρ, e, S, hS, hE, hP⟩ => ?_⟩
  rw [truR_or] at hP
  refine isTrue_or (stepT ha I hS hE hP fun k S1 F1 ρ1 H1 s1 I1 hS1 x1 hE1 hP1 => ?_)
  cases k with
  | false => exact hb.run wh pins s1 σ H1 Q I1 ⟨F1, ρ1, e, S1, hS1, hE1, hP1⟩
  | true => exact ⟨H1, I1, Post.ok (a := true) (b := true) hP1 hS1 rfl⟩
theorem se_not (hK : X.K = G.K) (ha : PE X a (tE G W x)) : PE X (.UnaryOp .Not a pos) (tE G W (notE x)) := by
  refine ⟨fun pins s σ H Q I ⟨F, ρ, e, S, hS, hE, hP⟩ => ?_⟩
  refine UnaryOp_ (stepE ha I hS hE hP fun p S1 F1 ρ1 H1 v u s1 I1 r1 hS1 x1 hE1 q1 hP1 => ?_)
  cases h : tru S1 p with
  | none => rw [h] at hP1; exact hP1.elim
  | some k =>
    rw [h] at hP1
    exact not_of (truW hK I1 r1 hS1 q1 h fun s2 I2 => ⟨.bl (!k), H1, I2, rfl, hP1.ok hS1 (by unfold rv; rfl)⟩)
theorem st_not (ha : PT X a (tT G W x)) : PT X (.UnaryOp .Not a pos) (tT G W (notE x)) := by
  refine ⟨fun pins s σ H Q I ⟨F, ρ, e, S, hS, hE, hP⟩ => ?_⟩
  rw [truR_not] at hP
  exact isTrue_not (stepT ha I hS hE hP fun k S1 F1 ρ1 H1 s1 I1 hS1 x1 hE1 hP1 => ⟨H1, I1, Post.ok (a := !k) (b := !k) hP1 hS1 rfl⟩)
theorem se_ite (hc : PT X c (tT G W z)) (ha : PE X a (tE G W x)) (hb : PE X b (tE G W y)) : PE X (.IfExp c a b pos) (tE G W (iteE z x y)) := by
  refine ⟨fun pins s σ H Q I ⟨F, ρ, e, S, hS, hE, hP⟩ => ?_⟩
  rw [ite_tru] at hP
  refine wpAny_IfExp (stepT hc I hS hE hP fun k S1 F1 ρ1 H1 s1 I1 hS1 x1 hE1 hP1 => ?_)
  cases k with
  | true => exact ha.run pins s1 σ H1 Q I1 ⟨F1, ρ1, e, S1, hS1, hE1, hP1⟩
  | false => exact hb.run pins s1 σ H1 Q I1 ⟨F1, ρ1, e, S1, hS1, hE1, hP1⟩
theorem st_ite (hc : PT X c (tT G W z)) (ha : PT X a (tT G W x)) (hb : PT X b (tT G W y)) : PT X (.IfExp c a b pos) (tT G W (iteE z x y)) := by
  refine ⟨fun pins s σ H Q I ⟨F, ρ, e, S, hS, hE, hP⟩ => ?_⟩
  rw [truR_ite] at hP
  refine isTrue_IfExp (stepT hc I hS hE hP fun k S1 F1 ρ1 H1 s1 I1 hS1 x1 hE1 hP1 => ?_)
  cases k with
  | true => exact ha.run pins s1 σ H1 Q I1 ⟨F1, ρ1, e, S1, hS1, hE1, hP1⟩
  | false => exact hb.run pins s1 σ H1 Q I1 ⟨F1, ρ1, e, S1, hS1, hE1, hP1⟩
theorem bind_assoc {α β γ : Type} (r : R α) (f : α → Store → R β) (g : β → Store → R γ) : (r.bind f).bind g = r.bind fun a S => (f a S).bind g := by
  cases r <;> rfl
/-- behind a value operation, the truth of what came -/
theorem op2_tru {f : Value → Value → Sem Value} {g : PV → PV → Store → R PV} (hK : X.K = G.K) (ho : Op2 G X W f g) {v v2 : V} {u u2 : Value} {p q : PV} (I : Inv X pins σ H s) (r1 : RelV v u) (r2 : RelV v2 u2) (hS : SR G F ρ H S) (q1 : rv G F ρ p v) (q2 : rv G F ρ q v2)
    {β γ : Type} {rel : Hp → List Addr → γ → β → Prop} {Q : β → Hp → Prop} {k : Bool → Store → R γ} (hP : Post G F ρ H (((g p q S).bind fun p S => opt (tru S p) S).bind k) rel Q (fun cls d H' => W cls d σ H')) {P : Bool → Shared → Prop}
    (kk : ∀ b S1 F1 ρ1 H1 s1, Inv X pins σ H1 s1 → SR G F1 ρ1 H1 S1 → Ext F ρ H F1 ρ1 H1 → Post G F1 ρ1 H1 (k b S1) rel Q (fun cls d H' => W cls d σ H') → P b s1) :
    wpAny (model X.prog X.w) X.A (f u u2) (fun c s2 => wpAny (model X.prog X.w) X.A (truthy c) P X.xe s2) X.xe s := by
  rw [bind_assoc] at hP
  refine thn (ho pins s σ H v v2 u u2 (fun v3 H3 => ∃ p3 S3 F3 ρ3 b, SR G F3 ρ3 H3 S3 ∧ Ext F ρ H F3 ρ3 H3 ∧ rv G F3 ρ3 p3 v3 ∧ tru S3 p3 = some b ∧ Post G F3 ρ3 H3 (k b S3) rel Q (fun cls d H' => W cls d σ H')) F ρ S p q I r1 r2 hS q1 q2 ?_) fun c s2 ⟨v3, H3, I3, r3, p3, S3, F3, ρ3, b, a1, a2, a4, a5, a6⟩ => truW hK I3 r3 a1 a4 a5 fun s4 I4 => kk b S3 F3 ρ3 H3 s4 I4 a1 a2 a6
  cases hx : g p q S with
  | ok p3 S3 =>
    rw [hx] at hP
    simp only [bind_ok] at hP
    cases h : tru S3 p3 with
    | none => rw [h] at hP; exact hP.elim
    | some b =>
      rw [h] at hP
      exact fun F3 ρ3 H3 v3 x1 s3 q3 => ⟨p3, S3, F3, ρ3, b, s3, x1, q3, h, Post.mono x1 hP⟩
  | exc z S3 => rw [hx] at hP; exact hP
  | bad => rw [hx] at hP; exact hP.elim
theorem st_cmp {op : CmpOp} {g : PV → PV → Store → R PV} (hK : X.K = G.K) (ho : Op2 G X W (compareOp op) g) (ha : PE X a (tE G W x)) (hb : PE X b (tE G W y)) (hm : behindInMarks op b = false) :
    PT X (.Compare a [op] [b] pos) (tT G W fun e S => (x e S).bind fun p S => (y e S).bind fun q S => g p q S) := by
  refine ⟨fun pins s σ H Q I ⟨F, ρ, e, S, hS, hE, hP⟩ => ?_⟩
  unfold truR at hP
  rw [bind_assoc] at hP
  refine wpAny_isTrue_Compare1 (stepE ha I hS hE hP fun p S1 F1 ρ1 H1 v u s1 I1 r1 hS1 x1 hE1 q1 hP1 => ?_) hm
  rw [bind_assoc] at hP1
  refine stepE hb I1 hS1 hE1 hP1 fun q S2 F2 ρ2 H2 v2 u2 s2 I2 r2 hS2 x2 hE2 q2 hP2 => ?_
  have hP2' : Post G F2 ρ2 H2 (((g p q S2).bind fun p S => opt (tru S p) S).bind fun b S => .ok b S) relB Q (fun cls d H' => W cls d σ H') := by
    have e : (((g p q S2).bind fun p S => opt (tru S p) S).bind fun b S => .ok b S) = ((g p q S2).bind fun p S => opt (tru S p) S) := by
      cases (g p q S2).bind fun p S => opt (tru S p) S <;> rfl
    rw [e]; exact hP2
  exact op2_tru hK ho I2 r1 r2 hS2 (rv_ext x2 _ _ q1) q2 hP2' fun b S3 F3 ρ3 H3 s3 I3 hS3 x3 hP3 => ⟨H3, I3, hP3.ok hS3 rfl⟩
def chainE (g g' : PV → PV → Store → R PV) (x y z : Env → Store → R PV) : Env → Store → R PV := fun e S => (x e S).bind fun p S => (y e S).bind fun q S => (g p q S).bind fun v S => match v with
  | .bl true => (z e S).bind fun r S => g' q r S
  | .bl false => .ok (.bl false) S
  | _ => .bad
theorem se_chain {op op' : CmpOp} {g g' : PV → PV → Store → R PV} (ho : Op2 G X W (compareOp op) g) (ho' : Op2 G X W (compareOp op') g') (ha : PE X a (tE G W x)) (hb : PE X b (tE G W y)) (hc : PE X c (tE G W z))
    (hm : lastMarks [op, op'] [b, c] = false) : PE X (.Compare a [op, op'] [b, c] pos) (tE G W (chainE g g' x y z)) := by
  refine ⟨fun pins s σ H Q I ⟨F, ρ, e, S, hS, hE, hP⟩ => ?_⟩
  unfold chainE at hP
  refine Compare_chain (stepE ha I hS hE hP fun p S1 F1 ρ1 H1 v u s1 I1 r1 hS1 x1 hE1 q1 hP1 => chain_link (stepE hb I1 hS1 hE1 hP1 fun q S2 F2 ρ2 H2 v2 u2 s2 I2 r2 hS2 x2 hE2 q2 hP2 => ?_)) hm
  refine thn (ho pins s2 σ H2 v v2 u u2 (fun v3 H3 => ∃ S3 F3 ρ3 b, SR G F3 ρ3 H3 S3 ∧ Ext F2 ρ2 H2 F3 ρ3 H3 ∧ v3 = .bl b ∧ Post G F3 ρ3 H3 (if b = true then (z e S3).bind fun r S => g' q r S else .ok (.bl false) S3) (rv G) Q (fun cls d H' => W cls d σ H')) F2 ρ2 S2 p q I2 r1 r2 hS2 (rv_ext x2 _ _ q1) q2 ?_) fun d s3 ⟨v3, H3, I3, r3, S3, F3, ρ3, b, a1, a2, a4, a5⟩ => ?_
  · cases hx : g p q S2 with
    | ok p3 S3 =>
      rw [hx] at hP2
      intro F3 ρ3 H3 v3 x1' s3 q3
      cases p3 with
      | bl b =>
        unfold rv at q3
        refine ⟨S3, F3, ρ3, b, s3, x1', q3, ?_⟩
        cases b with
        | true => exact Post.mono x1' hP2
        | false => exact Post.mono x1' hP2
      | _ => exact (show False from hP2).elim
    | exc z S3 => rw [hx] at hP2; exact hP2
    | bad => rw [hx] at hP2; exact hP2.elim
  · subst a4
    cases r3
    refine wpAny_truthy_bool ?_
    cases b with
    | false => exact ite_ff ⟨.bl false, H3, I3, rfl, a5.ok a1 (by unfold rv; rfl)⟩
    | true =>
      refine ite_tt (chain_last (stepE hc I3 a1 (rE_ext a2 hE2) a5 fun r S4 F4 ρ4 H4 v4 u4 s4 I4 r4 hS4 x4 hE4 q4 hP4 => ?_))
      exact ho' pins s4 σ H4 v2 v4 u2 u4 Q F4 ρ4 S4 q r I4 r2 r4 hS4 (rv_ext (a2.trans x4) _ _ q2) q4 hP4
theorem st_chain {op op' : CmpOp} {g g' : PV → PV → Store → R PV} (hK : X.K = G.K) (ho : Op2 G X W (compareOp op) g) (ho' : Op2 G X W (compareOp op') g') (ha : PE X a (tE G W x)) (hb : PE X b (tE G W y)) (hc : PE X c (tE G W z))
    (hm : lastMarks [op, op'] [b, c] = false) : PT X (.Compare a [op, op'] [b, c] pos) (tT G W (chainE g g' x y z)) := by
  refine ⟨fun pins s σ H Q I ⟨F, ρ, e, S, hS, hE, hP⟩ => ?_⟩
  unfold truR chainE at hP
  rw [bind_assoc] at hP
  refine isTrue_chain (stepE ha I hS hE hP fun p S1 F1 ρ1 H1 v u s1 I1 r1 hS1 x1 hE1 q1 hP1 => ?_) hm
  rw [bind_assoc] at hP1
  refine test_link (stepE hb I1 hS1 hE1 hP1 fun q S2 F2 ρ2 H2 v2 u2 s2 I2 r2 hS2 x2 hE2 q2 hP2 => ?_)
  rw [bind_assoc] at hP2
  refine thn (ho pins s2 σ H2 v v2 u u2 (fun v3 H3 => ∃ S3 F3 ρ3 b, SR G F3 ρ3 H3 S3 ∧ Ext F2 ρ2 H2 F3 ρ3 H3 ∧ v3 = .bl b ∧ Post G F3 ρ3 H3 (if b = true then (z e S3).bind fun r S => (g' q r S).bind fun p S => opt (tru S p) S else .ok false S3) relB Q (fun cls d H' => W cls d σ H')) F2 ρ2 S2 p q I2 r1 r2 hS2 (rv_ext x2 _ _ q1) q2 ?_) fun d s3 ⟨v3, H3, I3, r3, S3, F3, ρ3, b, a1, a2, a4, a5⟩ => ?_
  · cases hx : g p q S2 with
    | ok p3 S3 =>
      rw [hx] at hP2
      intro F3 ρ3 H3 v3 x1' s3 q3
      cases p3 with
      | bl b =>
        unfold rv at q3
        refine ⟨S3, F3, ρ3, b, s3, x1', q3, ?_⟩
        cases b with
        | true => simp only [bind_ok] at hP2; rw [bind_assoc] at hP2; exact Post.mono x1' hP2
        | false => exact Post.mono x1' hP2
      | _ => exact (show False from hP2).elim
    | exc z S3 => rw [hx] at hP2; exact hP2
    | bad => rw [hx] at hP2; exact hP2.elim
  · subst a4
    cases r3
    refine wpAny_truthy_bool ?_
    cases b with
    | false => exact ite_ff ⟨H3, I3, Post.ok (a := false) (b := false) a5 a1 rfl⟩
    | true =>
      refine ite_tt (test_last (stepE hc I3 a1 (rE_ext a2 hE2) a5 fun r S4 F4 ρ4 H4 v4 u4 s4 I4 r4 hS4 x4 hE4 q4 hP4 => ?_))
      have hP4' : Post G F4 ρ4 H4 (((g' q r S4).bind fun p S => opt (tru S p) S).bind fun b S => .ok b S) relB Q (fun cls d H' => W cls d σ H') := by
        have e : (((g' q r S4).bind fun p S => opt (tru S p) S).bind fun b S => .ok b S) = ((g' q r S4).bind fun p S => opt (tru S p) S) := by
          cases (g' q r S4).bind fun p S => opt (tru S p) S <;> rfl
        rw [e]; exact hP4
      exact op2_tru hK ho' I4 r2 r4 hS4 (rv_ext (a2.trans x4) _ _ q2) q4 hP4' fun b S5 F5 ρ5 H5 s5 I5 hS5 x5 hP5 => ⟨H5, I5, hP5.ok hS5 rfl⟩
end
end
end Ev
set_option Elab.async false
set_option linter.all false
set_option maxRecDepth 100000
/-! E4: operators on plain values. -/
namespace Ev
open PySem L2
open PyProof.Rows hiding St

section
variable {G : Rt} {X : Cx} {W : XK} {pins : List (Addr × Obj)} {σ : Slots} {H : Hp} {s : Shared} {F : Hp} {ρ : List Addr} {S : Store}
/-- a value as it is now: a list stands in H -/
def rh (G : Rt) (F : Hp) (ρ : List Addr) (H : Hp) : PV → V → Prop
  | .lst xs, v => ∃ a vs, v = .ref a ∧ H a = some (.lst vs) ∧ rvs G F ρ xs vs
  | .tup xs, v => ∃ a vs, v = .ref a ∧ SqT G.K F a vs ∧ rvs G F ρ xs vs
  | .dct ks xs, v => ∃ a vs, v = .ref a ∧ Rd H a (.dK (kvs ks vs)) ∧ ks.length = vs.length ∧ ks.Nodup ∧ (∀ k ∈ ks, okS k = true) ∧ rvs G F ρ xs vs
  | .cell _, _ => False
  | p, v => rv G F ρ p v
theorem thaw_ok (hS : SR G F ρ H S) {p q : PV} {v : V} (hv : rv G F ρ p v) (h : thaw S p = some q) : rh G F ρ H q v := by
  cases p with
  | cell i =>
    unfold rv at hv
    obtain ⟨a, rfl, hi⟩ := hv
    obtain ⟨c, u, hc, hu⟩ := hS.there hi
    simp only [thaw, hc] at h
    cases c with
    | lst xs =>
      cases h
      obtain ⟨vs, e1, r⟩ := hS.at_ i _ a hc hi
      exact ⟨a, vs, rfl, e1, r⟩
    | dct ks xs =>
      cases h
      obtain ⟨vs, e1, l, n, k, r⟩ := hS.at_ i _ a hc hi
      exact ⟨a, vs, rfl, .inl e1, l, n, k, r⟩
    | scr xs => cases h
    | ins c xs => cases h
    | dead => cases h
  | lst xs =>
    cases h
    unfold rv at hv
    obtain ⟨a, vs, rfl, e, r⟩ := hv
    exact ⟨a, vs, rfl, hS.sub _ _ e, r⟩
  | tup xs =>
    cases h
    unfold rv at hv
    exact hv
  | dct ks xs =>
    cases h
    unfold rv at hv
    obtain ⟨a, vs, rfl, e, l, n, k, r⟩ := hv
    exact ⟨a, vs, rfl, rd_mono hS.sub e, l, n, k, r⟩
  | non => cases h; exact hv
  | bl b => cases h; exact hv
  | int b => cases h; exact hv
  | str b => cases h; exact hv
  | ins c b => cases h; exact hv
  | obj b => cases h; exact hv
  | ex c b => cases h; exact hv
theorem items_ok (hS : SR G F ρ H S) {p : PV} {v : V} {xs : List PV} (hv : rv G F ρ p v) (h : items S p = some xs) : ∃ a vs, v = .ref a ∧ (SqL G.K H a vs ∨ SqT G.K H a vs) ∧ rvs G F ρ xs vs := by
  cases p with
  | cell i =>
    unfold rv at hv
    obtain ⟨a, rfl, hi⟩ := hv
    obtain ⟨c, u, hc, hu⟩ := hS.there hi
    simp only [items, hc] at h
    cases c with
    | lst xs =>
      cases h
      obtain ⟨vs, e1, r⟩ := hS.at_ i _ a hc hi
      exact ⟨a, vs, rfl, .inl (SqL.of e1), r⟩
    | scr xs =>
      cases h
      obtain ⟨u, vs, e1, r⟩ := hS.at_ i _ a hc hi
      exact ⟨a, vs, rfl, .inl (.inl (.inr ⟨u, e1⟩)), r⟩
    | dct ks xs => cases h
    | ins c xs => cases h
    | dead => cases h
  | lst xs =>
    cases h
    unfold rv at hv
    obtain ⟨a, vs, rfl, e, r⟩ := hv
    exact ⟨a, vs, rfl, .inl (SqL.of (hS.sub _ _ e)), r⟩
  | tup xs =>
    cases h
    unfold rv at hv
    obtain ⟨a, vs, rfl, e, r⟩ := hv
    exact ⟨a, vs, rfl, .inr (sqT_mono hS.sub e), r⟩
  | dct ks xs => cases h
  | non => cases h
  | bl b => cases h
  | int b => cases h
  | str b => cases h
  | ins c b => cases h
  | obj b => cases h
  | ex c b =>
    have h : (if (c == scrN) = true then some b else none) = some xs := h
    by_cases hc : (c == scrN) = true
    · rw [if_pos hc] at h
      cases h
      unfold rv at hv
      obtain ⟨_, a, vs, rfl, e, r⟩ := hv
      exact ⟨a, vs, rfl, .inl (sqL_mono hS.sub e), r⟩
    · rw [if_neg hc] at h; cases h
theorem rvs_len : ∀ {xs : List PV} {vs : List V}, rvs G F ρ xs vs → xs.length = vs.length
  | [], vs, h => by unfold rvs at h; subst h; rfl
  | x :: xs, vs, h => by
    unfold rvs at h
    obtain ⟨v, r, rfl, _, h⟩ := h
    simp [rvs_len h]
theorem rvs_app : ∀ {xs ys : List PV} {vs ws : List V}, rvs G F ρ xs vs → rvs G F ρ ys ws → rvs G F ρ (xs ++ ys) (vs ++ ws)
  | [], ys, vs, ws, h, h' => by unfold rvs at h; subst h; exact h'
  | x :: xs, ys, vs, ws, h, h' => by
    unfold rvs at h
    obtain ⟨v, r, rfl, a, h⟩ := h
    show rvs G F ρ (x :: (xs ++ ys)) (v :: (r ++ ws))
    unfold rvs
    exact ⟨v, r ++ ws, rfl, a, rvs_app h h'⟩
theorem rvs_get : ∀ {xs : List PV} {vs : List V} {i : Nat} {p : PV}, rvs G F ρ xs vs → xs[i]? = some p → ∃ v, vs[i]? = some v ∧ rv G F ρ p v
  | [], vs, i, p, h, e => by simp at e
  | x :: xs, vs, i, p, h, e => by
    unfold rvs at h
    obtain ⟨v, r, rfl, a, h⟩ := h
    cases i with
    | zero => simp at e; subst e; exact ⟨v, rfl, a⟩
    | succ i => exact rvs_get (i := i) h (by simpa using e)
theorem rvs_drop : ∀ (n : Nat) {xs : List PV} {vs : List V}, rvs G F ρ xs vs → rvs G F ρ (xs.drop n) (vs.drop n)
  | 0, xs, vs, h => h
  | n + 1, [], vs, h => by unfold rvs at h; subst h; simp [rvs]
  | n + 1, x :: xs, vs, h => by
    unfold rvs at h
    obtain ⟨v, r, rfl, a, h⟩ := h
    exact rvs_drop n h
theorem rvs_take : ∀ (n : Nat) {xs : List PV} {vs : List V}, rvs G F ρ xs vs → rvs G F ρ (xs.take n) (vs.take n)
  | 0, xs, vs, h => by simp [rvs]
  | n + 1, [], vs, h => by unfold rvs at h; subst h; simp [rvs]
  | n + 1, x :: xs, vs, h => by
    unfold rvs at h
    obtain ⟨v, r, rfl, a, h⟩ := h
    show rvs G F ρ (x :: xs.take n) (v :: r.take n)
    unfold rvs
    exact ⟨v, _, rfl, a, rvs_take n h⟩
theorem rvs_rep {xs : List PV} {vs : List V} (h : rvs G F ρ xs vs) : ∀ n : Nat, rvs G F ρ (repL xs n) (List.replicate n vs).flatten
  | 0 => by simp [repL, rvs]
  | n + 1 => by
    rw [List.replicate_succ, List.flatten_cons]
    exact rvs_app h (rvs_rep h n)
theorem rvs_rev : ∀ {xs : List PV} {vs : List V}, rvs G F ρ xs vs → rvs G F ρ xs.reverse vs.reverse
  | [], vs, h => by unfold rvs at h; subst h; simp [rvs]
  | x :: xs, vs, h => by
    unfold rvs at h
    obtain ⟨v, r, rfl, a, h⟩ := h
    rw [List.reverse_cons, List.reverse_cons]
    refine rvs_app (rvs_rev h) ?_
    unfold rvs
    exact ⟨v, [], rfl, a, by unfold rvs; rfl⟩
/-- a new list that is the answer -/
theorem mk_lst {Q : VK} {xs : List PV} {vs : List V} (hP : Post G F ρ H (.ok (.lst xs) S) (rv G) Q W) (hS : SR G F ρ H S) (r : rvs G F ρ xs vs) : ∀ p, H p = none → Q (.ref p) (upd H p (.lst vs)) := fun p hp => by
  obtain ⟨s1, h1⟩ := hS.newX hp (.lst vs)
  refine hP.okx h1 s1 ?_
  unfold rv
  exact ⟨p, vs, rfl, upd_same, rvs_ext h1 _ _ r⟩
theorem mk_tup {Q : VK} {xs : List PV} {vs : List V} (hP : Post G F ρ H (.ok (.tup xs) S) (rv G) Q W) (hS : SR G F ρ H S) (r : rvs G F ρ xs vs) : ∀ p, H p = none → Q (.ref p) (upd H p (.tup vs)) := fun p hp => by
  obtain ⟨s1, h1⟩ := hS.newX hp (.tup vs)
  refine hP.okx h1 s1 ?_
  unfold rv
  exact ⟨p, vs, rfl, SqT.of upd_same, rvs_ext h1 _ _ r⟩
/-- the place of a tuple that is read is known to F already, or it is laid there now -/
theorem tup_known {Q : VK} {xs : List PV} {vs : List V} {a : Addr} (hP : Post G F ρ H (.ok (.tup xs) S) (rv G) Q W) (hS : SR G F ρ H S) (q : SqT G.K F a vs) (r : rvs G F ρ xs vs) : Q (.ref a) H := by
  refine hP.ok hS ?_
  unfold rv
  exact ⟨a, vs, rfl, q, r⟩
theorem okS_app {x y : List Nat} (hx : okS x = true) (hy : okS y = true) (hl : x.length + y.length ≤ lim) : okS (x ++ y) = true := by
  unfold okS at hx hy ⊢
  rw [Bool.and_eq_true_iff] at hx hy ⊢
  refine ⟨by simpa using hl, ?_⟩
  rw [List.all_append, hx.2, hy.2]
  rfl
theorem sT_app (x y : List Nat) : sT (x ++ y) = sT x ++ sT y := by
  show (⟨⟨x ++ y⟩⟩ : Str) = ⟨(⟨x⟩ : Array Nat) ++ ⟨y⟩⟩
  simp
theorem rv_int {i : Int} {v : V} (h : rv G F ρ (.int i) v) : v = .int i := by unfold rv at h; exact h
theorem rv_bl {i : Bool} {v : V} (h : rv G F ρ (.bl i) v) : v = .bl i := by unfold rv at h; exact h
theorem rv_str {x : List Nat} {v : V} (h : rv G F ρ (.str x) v) : v = .str (sT x) ∧ okS x = true := by unfold rv at h; exact h
theorem rh_int {i : Int} {v : V} (h : rh G F ρ H (.int i) v) : v = .int i := rv_int (G := G) (F := F) (ρ := ρ) h
theorem rh_bl {i : Bool} {v : V} (h : rh G F ρ H (.bl i) v) : v = .bl i := rv_bl (G := G) (F := F) (ρ := ρ) h
theorem rh_str {x : List Nat} {v : V} (h : rh G F ρ H (.str x) v) : v = .str (sT x) ∧ okS x = true := rv_str (G := G) (F := F) (ρ := ρ) h
theorem q_int {Q : VK} {i : Int} (hP : Post G F ρ H (.ok (.int i) S) (rv G) Q W) (hS : SR G F ρ H S) : Q (.int i) H := hP.ok hS (by unfold rv; rfl)
theorem q_bl {Q : VK} {i : Bool} (hP : Post G F ρ H (.ok (.bl i) S) (rv G) Q W) (hS : SR G F ρ H S) : Q (.bl i) H := hP.ok hS (by unfold rv; rfl)
theorem q_str {Q : VK} {x : List Nat} (hP : Post G F ρ H (.ok (.str x) S) (rv G) Q W) (hS : SR G F ρ H S) (h : okS x = true) : Q (.str (sT x)) H := hP.ok hS (by unfold rv; exact ⟨rfl, h⟩)

def opB : BOp → Operator
  | .add => .Add | .sub => .Sub | .mul => .Mult | .fdiv => .FloorDiv | .mod => .Mod | .pow => .Pow | .shl => .LShift | .bor => .BitOr | .band => .BitAnd
theorem op_add_bb : OpR X (binaryOp .Add) (fun x y H Q => ∃ i k, x = .bl i ∧ y = .bl k ∧ Q (.int (b2i i + b2i k)) H) := by
  intro pins s σ H x y v u Q I rx ry h
  obtain ⟨i, k, rfl, rfl, q⟩ := h
  cases rx
  cases ry
  exact PyProof.Rows.add_bool ⟨.int (b2i i + b2i k), H, I.tok _, ⟨_, rfl⟩, q⟩
theorem repL_all {f : Nat → Bool} {x : List Nat} (h : x.all f = true) : ∀ n, (repL x n).all f = true
  | 0 => rfl
  | n + 1 => by
    show (x ++ repL x n).all f = true
    rw [List.all_append, h, repL_all h n]; rfl
theorem repL_len {α : Type} (x : List α) : ∀ n, (repL x n).length = x.length * n
  | 0 => rfl
  | n + 1 => by
    show (x ++ repL x n).length = _
    rw [List.length_append, repL_len x n, Nat.mul_succ]
    omega
theorem okS_rep {x : List Nat} (h : okS x = true) {n : Nat} (hl : x.length * n ≤ lim) : okS (repL x n) = true := by
  unfold okS at h ⊢
  rw [Bool.and_eq_true_iff] at h ⊢
  exact ⟨by rw [repL_len]; simpa using hl, repL_all h.2 n⟩
theorem foldl_cps (x : List Nat) : ∀ (n : Nat) (a : List Nat), (List.replicate n (⟨x⟩ : Array Nat)).foldl (· ++ ·) ⟨a⟩ = ⟨a ++ repL x n⟩
  | 0, a => by simp [repL]
  | n + 1, a => by
    rw [List.replicate_succ, List.foldl_cons]
    have e : (⟨a⟩ : Array Nat) ++ ⟨x⟩ = ⟨a ++ x⟩ := by simp
    rw [e, foldl_cps x n (a ++ x)]
    simp [repL]
theorem op_mul_str : OpR X (binaryOp .Mult) (fun x y H Q => ∃ (i : List Nat) (j : Int), x = .str (sT i) ∧ y = .int j ∧ j ≤ 1000000 ∧ i.length * j.toNat ≤ lim ∧ i.length ≤ lim ∧ -1000000 ≤ j ∧ Q (.str (sT (repL i j.toNat))) H) := by
  intro pins s σ H x y v u Q I rx ry h
  obtain ⟨i, j, rfl, rfl, h1, h2, h4, h3, q⟩ := h
  obtain ⟨t, rfl⟩ := rx
  obtain ⟨t', rfl⟩ := ry
  have hlim : lim = 1000000 := rfl
  have hline : sizeLine = 16777216 := sizeLine_eq
  have hlen : (sT i).length = i.length := rfl
  refine PySem.P.mul_str (by rw [decide_eq_false (by omega), decide_eq_false (by omega)]; rfl) (fun h5 h6 => ?_) (fun h5 h6 => ?_) ?_
  · rw [hlen]
    have hj : 0 < j := by omega
    have : (9223372036854775807 : Int) / 1000000 ≤ (9223372036854775807 : Int) / j := by
      refine Int.le_ediv_of_mul_le hj ?_
      have e : (9223372036854775807 : Int) / 1000000 * j ≤ (9223372036854775807 : Int) / 1000000 * 1000000 := Int.mul_le_mul_of_nonneg_left h1 (by decide)
      exact Int.le_trans e (by decide)
    have e2 : (2 ^ 63 - 1 : Int) = 9223372036854775807 := by decide
    rw [e2]
    have e3 : (9223372036854775807 : Int) / 1000000 = 9223372036854 := by decide
    omega
  · rw [hlen]
    unfold Builtin.Str.tooLong
    exact decide_eq_false (by omega)
  · by_cases h5 : j < 1
    · rw [if_pos h5]
      have e : j.toNat = 0 := by omega
      rw [e] at q
      refine ⟨?_, ⟨.str (sT []), H, I.tok _, ⟨_, rfl⟩, q⟩⟩
      decide
    · rw [if_neg h5]
      by_cases h6 : (j == 1 || (sT i).length == 0) = true
      · rw [if_pos h6]
        refine ⟨.str (sT i), H, I, ⟨_, rfl⟩, ?_⟩
        have e : repL i j.toNat = i := by
          rcases Bool.or_eq_true_iff.mp h6 with h7 | h7
          · have : j = 1 := by simpa using h7
            subst this
            show i ++ [] = i
            simp
          · have h8 : i.length = 0 := by simpa [hlen] using h7
            have : i = [] := List.eq_nil_of_length_eq_zero h8
            subst this
            have z := repL_len ([] : List Nat) j.toNat
            simp at z
            exact z
        rw [e] at q
        exact q
      · rw [if_neg h6]
        have e : (⟨(List.replicate j.toNat (sT i).cps).foldl (· ++ ·) #[]⟩ : Str) = sT (repL i j.toNat) := by
          show (⟨(List.replicate j.toNat (⟨i⟩ : Array Nat)).foldl (· ++ ·) ⟨[]⟩⟩ : Str) = _
          rw [foldl_cps]
          rfl
        rw [e]
        refine ⟨?_, ⟨.str (sT (repL i j.toNat)), H, I.tok _, ⟨_, rfl⟩, q⟩⟩
        show (repL i j.toNat).length ≤ _
        rw [repL_len]
        omega
end
end Ev
set_option Elab.async false
set_option linter.all false
set_option maxRecDepth 100000
set_option maxHeartbeats 1000000
/-! E5: operators and comparisons of plain data. -/
namespace Ev
open PySem L2
open PyProof.Rows hiding St

section
variable {G : Rt} {X : Cx} {W : XK} {pins : List (Addr × Obj)} {σ : Slots} {H : Hp} {s : Shared} {F : Hp} {ρ : List Addr} {S : Store}
theorem pow_lt_log {n k : Nat} (h : n < 2 ^ k) (hk : 0 < k) : n.log2 < k := PySem.Flt.log2_lt_of hk h
theorem and3 {a b c : Bool} (h : (a && b && c) = true) : a = true ∧ b = true ∧ c = true := by
  rw [Bool.and_eq_true_iff, Bool.and_eq_true_iff] at h
  exact ⟨h.1.1, h.1.2, h.2⟩
theorem and4 {a b c d : Bool} (h : (a && b && c && d) = true) : a = true ∧ b = true ∧ c = true ∧ d = true := by
  rw [Bool.and_eq_true_iff] at h
  obtain ⟨p, q, r⟩ := and3 h.1
  exact ⟨p, q, r, h.2⟩
/-- an operator on plain values -/
theorem bin_data {o : BOp} {p q : PV} {x y : V} {v u : Value} {Q : VK} (hK : X.K = G.K) (I : Inv X pins σ H s) (r1 : RelV x v) (r2 : RelV y u) (hS : SR G F ρ H S) (h1 : rh G F ρ H p x) (h2 : rh G F ρ H q y)
    (hP : Post G F ρ H (opt (binD o p q S) S) (rv G) Q W) : wpAny (model X.prog X.w) X.A (binaryOp (opB o) v u) (EP X pins σ Q) X.xe s := by
  revert hP
  unfold binD
  split
  · rename_i i j
    intro hP
    exact op_add pins s σ H x y v u Q I r1 r2 ⟨i, j, rh_int h1, rh_int h2, q_int hP hS⟩
  · rename_i a b
    intro hP
    exact op_add_bb pins s σ H x y v u Q I r1 r2 ⟨a, b, rh_bl h1, rh_bl h2, q_int hP hS⟩
  · rename_i i b
    intro hP
    exact op_add_ib pins s σ H x y v u Q I r1 r2 ⟨i, b, rh_int h1, rh_bl h2, q_int hP hS⟩
  · rename_i a b
    intro hP
    obtain ⟨e1, k1⟩ := rh_str h1
    obtain ⟨e2, k2⟩ := rh_str h2
    by_cases hl : a.length + b.length ≤ lim
    · rw [if_pos hl] at hP
      refine op_add_str pins s σ H x y v u Q I r1 r2 ⟨sT a, sT b, e1, e2, Nat.le_trans hl lim_line, ?_⟩
      rw [← sT_app]
      exact q_str hP hS (okS_app k1 k2 hl)
    · rw [if_neg hl] at hP; exact hP.elim
  · rename_i xs ys
    intro hP
    obtain ⟨a, vs, e1, q1, k1⟩ := h1
    obtain ⟨b, ws, e2, q2, k2⟩ := h2
    by_cases hl : xs.length + ys.length ≤ lim
    · rw [if_pos hl] at hP
      have hl' : vs.length + ws.length ≤ sizeLine := by rw [← rvs_len k1, ← rvs_len k2]; exact Nat.le_trans hl lim_line
      refine op_catA pins s σ H x y v u Q I r1 r2 ⟨a, b, vs, ws, e1, e2, by rw [hK]; exact sqT_mono hS.sub q1, by rw [hK]; exact sqT_mono hS.sub q2, hl', fun e => ?_, fun e e' => ?_, fun _ _ => mk_tup hP hS (rvs_app k1 k2)⟩
      · have := rvs_app k1 k2
        rw [e] at this
        exact tup_known hP hS q2 this
      · have := rvs_app k1 k2
        rw [e', List.append_nil] at this
        exact tup_known hP hS q1 this
    · rw [if_neg hl] at hP; exact hP.elim
  · rename_i xs ys
    intro hP
    obtain ⟨a, vs, e1, q1, k1⟩ := h1
    obtain ⟨b, ws, e2, q2, k2⟩ := h2
    by_cases hl : xs.length + ys.length ≤ lim
    · rw [if_pos hl] at hP
      have hl' : vs.length + ws.length ≤ sizeLine := by rw [← rvs_len k1, ← rvs_len k2]; exact Nat.le_trans hl lim_line
      exact op_cat pins s σ H x y v u Q I r1 r2 ⟨a, b, vs, ws, e1, e2, q1, q2, hl', mk_lst hP hS (rvs_app k1 k2)⟩
    · rw [if_neg hl] at hP; exact hP.elim
  · rename_i i j
    intro hP
    exact op_sub pins s σ H x y v u Q I r1 r2 ⟨i, j, rh_int h1, rh_int h2, q_int hP hS⟩
  · rename_i i j
    intro hP
    by_cases hm : mulOk i j = true
    · rw [if_pos hm] at hP
      unfold mulOk at hm
      rcases Bool.or_eq_true_iff.mp hm with hm | hm
      · rcases Bool.or_eq_true_iff.mp hm with hm | hm
        · have := of_decide_eq_true hm
          exact op_mul pins s σ H x y v u Q I r1 r2 ⟨i, j, rh_int h1, rh_int h2, .inl (by omega), q_int hP hS⟩
        · have := of_decide_eq_true hm
          exact op_mul pins s σ H x y v u Q I r1 r2 ⟨i, j, rh_int h1, rh_int h2, .inr (by omega), q_int hP hS⟩
      · have hm := Bool.and_eq_true_iff.mp hm
        exact op_mulW pins s σ H x y v u Q I r1 r2 ⟨i, j, rh_int h1, rh_int h2, wide_mul (of_decide_eq_true hm.1) (of_decide_eq_true hm.2) (by decide) (by decide) (by decide), q_int hP hS⟩
    · rw [if_neg hm] at hP; exact hP.elim
  · rename_i a j
    intro hP
    obtain ⟨e1, k1⟩ := rh_str h1
    by_cases hm : (decide (j ≤ 1000000) && decide (-1000000 ≤ j) && decide (a.length * j.toNat ≤ lim)) = true
    · rw [if_pos hm] at hP
      obtain ⟨m1, m2, m3⟩ := and3 hm
      exact op_mul_str pins s σ H x y v u Q I r1 r2 ⟨a, j, e1, rh_int h2, of_decide_eq_true m1, of_decide_eq_true m3, okS_len k1, of_decide_eq_true m2, q_str hP hS (okS_rep k1 (of_decide_eq_true m3))⟩
    · rw [if_neg hm] at hP; exact hP.elim
  · rename_i xs j
    intro hP
    obtain ⟨a, vs, e1, q1, k1⟩ := h1
    by_cases hm : (decide (j ≤ 1000000) && decide (-1000000 ≤ j) && decide (xs.length * j.toNat ≤ lim)) = true
    · rw [if_pos hm] at hP
      obtain ⟨m1, m2, m3⟩ := and3 hm
      have m1 := of_decide_eq_true m1
      have m2 := of_decide_eq_true m2
      have m3 := of_decide_eq_true m3
      exact op_rep pins s σ H x y v u Q I r1 r2 ⟨a, j, vs, e1, rh_int h2, q1, by omega, by omega, by rw [← rvs_len k1]; exact Nat.le_trans m3 lim_line, mk_lst hP hS (rvs_rep k1 _)⟩
    · rw [if_neg hm] at hP; exact hP.elim
  · rename_i i j
    intro hP
    by_cases hm : divOk j = true
    · rw [if_pos hm] at hP
      have hm := Bool.and_eq_true_iff.mp hm
      exact op_fdivW pins s σ H x y v u Q I r1 r2 ⟨i, j, rh_int h1, rh_int h2, wide_div (of_decide_eq_true hm.1) (of_decide_eq_true hm.2) (by decide) (by decide), q_int hP hS⟩
    · rw [if_neg hm] at hP; exact hP.elim
  · rename_i i j
    intro hP
    by_cases hm : decide (0 < j) = true
    · rw [if_pos hm] at hP
      exact op_mod pins s σ H x y v u Q I r1 r2 ⟨i, j, rh_int h1, rh_int h2, of_decide_eq_true hm, q_int hP hS⟩
    · rw [if_neg hm] at hP; exact hP.elim
  · rename_i i j
    intro hP
    by_cases hm : powOk i j = true
    · rw [if_pos hm] at hP
      obtain ⟨m1, m2, m3⟩ := and3 hm
      exact op_pow pins s σ H x y v u Q I r1 r2 ⟨i, j, rh_int h1, rh_int h2, ⟨of_decide_eq_true m1, of_decide_eq_true m2, of_decide_eq_true m3⟩, q_int hP hS⟩
    · rw [if_neg hm] at hP; exact hP.elim
  · rename_i i j
    intro hP
    by_cases hm : powOk i j = true
    · rw [if_pos hm] at hP
      obtain ⟨m1, m2, m3⟩ := and3 hm
      exact op_shl pins s σ H x y v u Q I r1 r2 ⟨i, j, rh_int h1, rh_int h2, ⟨of_decide_eq_true m1, of_decide_eq_true m2, of_decide_eq_true m3⟩, q_int hP hS⟩
    · rw [if_neg hm] at hP; exact hP.elim
  · intro hP; exact hP.elim
end
end Ev
set_option Elab.async false
set_option linter.all false
set_option maxRecDepth 100000
set_option maxHeartbeats 1000000
/-! E6: comparisons of plain data. -/
namespace Ev
open PySem L2
open PyProof.Rows hiding St

theorem sT_beq (x y : List Nat) : (sT x == sT y) = (x == y) := by
  by_cases h : x = y
  · subst h; simp
  · have : sT x ≠ sT y := fun e => h (by injection e with e; injection e)
    rw [beq_eq_false_iff_ne.mpr this, beq_eq_false_iff_ne.mpr h]
mutual
theorem eqv_pd : ∀ p q : PV, isD p = true → isD q = true → PyData.eqv (pd p) (pd q) = eqP p q
  | .non, q, _, hq => by cases q <;> first | (simp [pd, PyData.eqv, eqP]; done) | (exact absurd hq (by simp [isD]))
  | .bl a, q, _, hq => by cases q <;> first | (simp [pd, PyData.eqv, eqP]; done) | (exact absurd hq (by simp [isD]))
  | .int a, q, _, hq => by cases q <;> first | (simp [pd, PyData.eqv, eqP]; done) | (exact absurd hq (by simp [isD]))
  | .str a, q, _, hq => by cases q <;> first | (simp [pd, PyData.eqv, eqP, sT_beq]; done) | (exact absurd hq (by simp [isD]))
  | .tup xs, q, hp, hq => by
    cases q with
    | tup ys =>
      simp only [isD] at hp hq
      simp only [pd, PyData.eqv, eqP]
      exact eqv_pds xs ys hp hq
    | _ => first | (simp [pd, PyData.eqv, eqP]; done) | (exact absurd hq (by simp [isD]))
  | .lst xs, q, hp, hq => by
    cases q with
    | lst ys =>
      simp only [isD] at hp hq
      simp only [pd, PyData.eqv, eqP]
      exact eqv_pds xs ys hp hq
    | _ => first | (simp [pd, PyData.eqv, eqP]; done) | (exact absurd hq (by simp [isD]))
  | .dct _ _, _, hp, _ => absurd hp (by simp [isD])
  | .ins _ _, _, hp, _ => absurd hp (by simp [isD])
  | .cell _, _, hp, _ => absurd hp (by simp [isD])
  | .obj _, _, hp, _ => absurd hp (by simp [isD])
  | .ex _ _, _, hp, _ => absurd hp (by simp [isD])
theorem eqv_pds : ∀ p q : List PV, isDs p = true → isDs q = true → PyData.eqvAll (pds p) (pds q) = eqL p q
  | [], [], _, _ => by simp [pds, PyData.eqvAll, eqL]
  | [], _ :: _, _, _ => by simp [pds, PyData.eqvAll, eqL]
  | _ :: _, [], _, _ => by simp [pds, PyData.eqvAll, eqL]
  | x :: xs, y :: ys, hp, hq => by
    simp only [isDs, Bool.and_eq_true] at hp hq
    simp only [pds, PyData.eqvAll, eqL]
    rw [eqv_pd x y hp.1 hq.1, eqv_pds xs ys hp.2 hq.2]
end
mutual
theorem dep_pd : ∀ p : PV, isD p = true → (pd p).depth = dep p
  | .non, _ => by simp [pd, PyData.depth, dep]
  | .bl a, _ => by simp [pd, PyData.depth, dep]
  | .int a, _ => by simp [pd, PyData.depth, dep]
  | .str a, _ => by simp [pd, PyData.depth, dep]
  | .tup xs, h => by simp only [isD] at h; simp only [pd, PyData.depth, dep, dep_pds xs h]
  | .lst xs, h => by simp only [isD] at h; simp only [pd, PyData.depth, dep, dep_pds xs h]
  | .dct _ _, hp => absurd hp (by simp [isD])
  | .ins _ _, hp => absurd hp (by simp [isD])
  | .cell _, hp => absurd hp (by simp [isD])
  | .obj _, hp => absurd hp (by simp [isD])
  | .ex _ _, hp => absurd hp (by simp [isD])
theorem dep_pds : ∀ p : List PV, isDs p = true → PyData.depthAll (pds p) = deps p
  | [], _ => by simp [pds, PyData.depthAll, deps]
  | x :: xs, h => by
    simp only [isDs, Bool.and_eq_true] at h
    simp only [pds, PyData.depthAll, deps, dep_pd x h.1, dep_pds xs h.2]
end
section
variable {G : Rt} {F : Hp} {ρ : List Addr} {H : Hp}
mutual
theorem lay_pd : ∀ (p : PV) (v : V), isD p = true → rv G F ρ p v → (pd p).canLay0 = true
  | .non, _, _, _ => by simp [pd, PyData.canLay0]
  | .bl a, _, _, _ => by simp [pd, PyData.canLay0]
  | .int a, _, _, _ => by simp [pd, PyData.canLay0]
  | .str a, _, _, h => by
    unfold rv at h
    simp only [pd, PyData.canLay0]
    have := h.2
    unfold okS at this
    have := (Bool.and_eq_true_iff.mp this).2
    show ((⟨a⟩ : Array Nat).all fun c => decide (c < 0x110000)) = true
    simpa using this
  | .tup xs, _, h, q => by
    simp only [isD] at h
    unfold rv at q
    obtain ⟨a, vs, _, _, r⟩ := q
    simp only [pd, PyData.canLay0]
    exact lay_pds xs vs h r
  | .lst xs, _, h, q => by
    simp only [isD] at h
    unfold rv at q
    obtain ⟨a, vs, _, _, r⟩ := q
    simp only [pd, PyData.canLay0]
    exact lay_pds xs vs h r
  | .dct _ _, _, hp, _ => absurd hp (by simp [isD])
  | .ins _ _, _, hp, _ => absurd hp (by simp [isD])
  | .cell _, _, hp, _ => absurd hp (by simp [isD])
  | .obj _, _, hp, _ => absurd hp (by simp [isD])
  | .ex _ _, _, hp, _ => absurd hp (by simp [isD])
theorem lay_pds : ∀ (p : List PV) (v : List V), isDs p = true → rvs G F ρ p v → PyData.canLayAll0 (pds p) = true
  | [], _, _, _ => by simp [pds, PyData.canLayAll0]
  | x :: xs, v, h, q => by
    simp only [isDs, Bool.and_eq_true] at h
    unfold rvs at q
    obtain ⟨w, r, _, a, b⟩ := q
    simp only [pds, PyData.canLayAll0, lay_pd x w h.1 a, lay_pds xs r h.2 b, Bool.and_self]
end
mutual
theorem dp_pd (hs : Same F H) : ∀ (p : PV) (v : V), isD p = true → rv G F ρ p v → Dp G.K H v (pd p)
  | .non, v, _, q => by unfold rv at q; subst q; simp only [pd]; exact .non
  | .bl a, v, _, q => by unfold rv at q; subst q; simp only [pd]; exact .bl a
  | .int a, v, _, q => by unfold rv at q; subst q; simp only [pd]; exact .int a
  | .str a, v, _, q => by unfold rv at q; rw [q.1]; simp only [pd]; exact .str _
  | .tup xs, v, h, q => by
    simp only [isD] at h
    unfold rv at q
    obtain ⟨a, vs, rfl, z, r⟩ := q
    simp only [pd]
    exact .tup (sqT_mono hs z) (dp_pds hs xs vs h r)
  | .lst xs, v, h, q => by
    simp only [isD] at h
    unfold rv at q
    obtain ⟨a, vs, rfl, z, r⟩ := q
    simp only [pd]
    exact .lst (SqL.of (hs _ _ z)) (dp_pds hs xs vs h r)
  | .dct _ _, _, hp, _ => absurd hp (by simp [isD])
  | .ins _ _, _, hp, _ => absurd hp (by simp [isD])
  | .cell _, _, hp, _ => absurd hp (by simp [isD])
  | .obj _, _, hp, _ => absurd hp (by simp [isD])
  | .ex _ _, _, hp, _ => absurd hp (by simp [isD])
theorem dp_pds (hs : Same F H) : ∀ (p : List PV) (v : List V), isDs p = true → rvs G F ρ p v → DpAll G.K H v (pds p)
  | [], v, _, q => by unfold rvs at q; subst q; simp only [pds]; exact .nil
  | x :: xs, v, h, q => by
    simp only [isDs, Bool.and_eq_true] at h
    unfold rvs at q
    obtain ⟨w, r, rfl, a, b⟩ := q
    simp only [pds]
    exact .cons (dp_pd hs x w h.1 a) (dp_pds hs xs r h.2 b)
end
/-- a thawed value as data -/
theorem dp_rh (hs : Same F H) {p : PV} {v : V} (h : isD p = true) (q : rh G F ρ H p v) : Dp G.K H v (pd p) ∧ (pd p).canLay0 = true := by
  cases p with
  | lst xs =>
    simp only [isD] at h
    obtain ⟨a, vs, rfl, z, r⟩ := q
    simp only [pd]
    exact ⟨.lst (SqL.of z) (dp_pds hs xs vs h r), by simp only [PyData.canLay0]; exact lay_pds xs vs h r⟩
  | tup xs => exact ⟨dp_pd (ρ := ρ) hs (.tup xs) v h (by unfold rv; exact q), lay_pd (F := F) (G := G) (ρ := ρ) (.tup xs) v h (by unfold rv; exact q)⟩
  | non => exact ⟨dp_pd (ρ := ρ) hs _ v h q, lay_pd (F := F) (G := G) (ρ := ρ) _ v h q⟩
  | bl _ => exact ⟨dp_pd (ρ := ρ) hs _ v h q, lay_pd (F := F) (G := G) (ρ := ρ) _ v h q⟩
  | int _ => exact ⟨dp_pd (ρ := ρ) hs _ v h q, lay_pd (F := F) (G := G) (ρ := ρ) _ v h q⟩
  | str _ => exact ⟨dp_pd (ρ := ρ) hs _ v h q, lay_pd (F := F) (G := G) (ρ := ρ) _ v h q⟩
  | dct _ _ => exact absurd h (by simp [isD])
  | ins _ _ => exact absurd h (by simp [isD])
  | cell _ => exact absurd h (by simp [isD])
  | obj _ => exact absurd h (by simp [isD])
  | ex _ _ => exact absurd h (by simp [isD])
theorem shaped_of {p : PV} (h : isD p = true) (hl : (pd p).canLay0 = true) (hd : dep p ≤ 60) : SeqAt.shaped (pd p) = true := by
  unfold SeqAt.shaped
  rw [hl, decide_eq_true (by rw [dep_pd p h]; omega)]
  rfl
theorem any_pds (p : PV) (hp : isD p = true) : ∀ xs : List PV, isDs xs = true → ((pds xs).any fun z => PyData.eqv z (pd p)) = isIn p xs
  | [], _ => by simp [pds, isIn]
  | x :: xs, h => by
    simp only [isDs, Bool.and_eq_true] at h
    simp only [pds, isIn, List.any_cons, eqv_pd x p h.1 hp, any_pds p hp xs h.2]
theorem hasC_mem (c : Nat) : ∀ y : List Nat, hasC c y = decide (c ∈ y)
  | [] => rfl
  | x :: r => by
    simp only [hasC, hasC_mem c r, List.mem_cons]
    by_cases h : x = c
    · subst h; simp
    · have h2 : ¬ c = x := fun e => h e.symm
      by_cases h3 : c ∈ r <;> simp [h, h2, h3]
theorem ltT_dec : ∀ x y : List Nat, ltT x y = decide (x < y)
  | [], [] => by simp [ltT]
  | [], _ :: _ => by simp [ltT]
  | _ :: _, [] => by simp [ltT]
  | a :: x, b :: y => by
    have ih := ltT_dec x y
    by_cases h : a < b
    · simp [ltT, h, List.cons_lt_cons_iff]
    · by_cases h2 : b < a
      · have : ¬ a = b := by omega
        simp [ltT, h, h2, List.cons_lt_cons_iff, this]
      · have : a = b := by omega
        subst this
        simp [ltT, ih, List.cons_lt_cons_iff]
end
end Ev
set_option Elab.async false
set_option linter.all false
set_option maxRecDepth 100000
set_option maxHeartbeats 1000000
/-! E7: comparisons of plain data, by the machine. -/
namespace Ev
open PySem L2
open PyProof.Rows hiding St

def opC : COp → CmpOp
  | .eq => .Eq | .ne => .NotEq | .lt => .Lt | .le => .LtE | .gt => .Gt | .ge => .GtE | .isin => .In | .notin => .NotIn | .is_ => .Is | .isnot => .IsNot
section
variable {G : Rt} {X : Cx} {W : XK} {pins : List (Addr × Obj)} {σ : Slots} {H : Hp} {s : Shared} {F : Hp} {ρ : List Addr} {S : Store}
theorem room65 {k : Nat} {A : Around} (r : Room (k + 1) A) : A.units + 65 < cLine := by have := r.un; omega
/-- x in a tuple of data -/
theorem op_inT (hu : X.A.units + 65 < cLine) : OpR X (compareOp .In) (fun x y H Q => ∃ d ds, Dp X.K H x d ∧ Dp X.K H y (.tuple ds) ∧ SeqAt.shaped d = true ∧ SeqAt.shaped (.tuple ds) = true ∧ Q (.bl (ds.any fun z => PyData.eqv z d)) H) := by
  intro pins s σ H x y v u Q I rx ry h
  obtain ⟨d, ds, hd, he, sd, se, q⟩ := h
  obtain ⟨as, r1⟩ := Dp.reads I d x v hd rx
  obtain ⟨bs, r2⟩ := Dp.reads I (.tuple ds) y u he ry
  exact SeqAt.in_tuple_reads r2 r1 (SeqAt.canLay_of_shaped se) (SeqAt.canLay_of_shaped sd) (room_in_shaped sd hu) ⟨.bl _, H, I, rfl, q⟩
theorem op_notInT (hu : X.A.units + 65 < cLine) : OpR X (compareOp .NotIn) (fun x y H Q => ∃ d ds, Dp X.K H x d ∧ Dp X.K H y (.tuple ds) ∧ SeqAt.shaped d = true ∧ SeqAt.shaped (.tuple ds) = true ∧ Q (.bl (!ds.any fun z => PyData.eqv z d)) H) := by
  intro pins s σ H x y v u Q I rx ry h
  obtain ⟨d, ds, hd, he, sd, se, q⟩ := h
  obtain ⟨as, r1⟩ := Dp.reads I d x v hd rx
  obtain ⟨bs, r2⟩ := Dp.reads I (.tuple ds) y u he ry
  exact SeqAt.notIn_tuple_reads r2 r1 (SeqAt.canLay_of_shaped se) (SeqAt.canLay_of_shaped sd) (room_in_shaped sd hu) ⟨.bl _, H, I, rfl, q⟩
theorem deps_pd {xs : List PV} (h : isDs xs = true) : PyData.depthAll (pds xs) = deps xs := dep_pds xs h
/-- what is searched: a list or a tuple of data -/
theorem seq_dp (hS : SR G F ρ H S) {p : PV} {v : V} {xs : List PV} (hv : rv G F ρ p v) (h : items S p = some xs) (hd : isDs xs = true) (hl : deps xs ≤ 60) :
    (Dp G.K H v (.list (pds xs)) ∧ SeqAt.shaped (.list (pds xs)) = true) ∨ (Dp G.K H v (.tuple (pds xs)) ∧ SeqAt.shaped (.tuple (pds xs)) = true) := by
  obtain ⟨a, vs, rfl, q, r⟩ := items_ok hS hv h
  have hlay : PyData.canLayAll0 (pds xs) = true := lay_pds xs vs hd r
  have hdp := dp_pds hS.sub xs vs hd r
  have hdep := dep_pds xs hd
  rcases q with q | q
  · refine .inl ⟨.lst q hdp, ?_⟩
    unfold SeqAt.shaped
    simp only [PyData.canLay0, hlay, PyData.depth, hdep, Bool.true_and]
    exact decide_eq_true (by omega)
  · refine .inr ⟨.tup q hdp, ?_⟩
    unfold SeqAt.shaped
    simp only [PyData.canLay0, hlay, PyData.depth, hdep, Bool.true_and]
    exact decide_eq_true (by omega)
theorem key_dec (k x : List Nat) : decide ((Sum.inr (sT k) : Key) = Sum.inr (sT x)) = (k == x) := by
  by_cases h : k = x
  · subst h; simp
  · have : ¬ ((Sum.inr (sT k) : Key) = Sum.inr (sT x)) := fun e => h (by injection e with e; injection e with e; injection e)
    rw [decide_eq_false this, beq_eq_false_iff_ne.mpr h]
theorem valV_cons (k x : List Nat) (ks : List (List Nat)) (v : V) (vs : List V) : valV (kvs (k :: ks) (v :: vs)) (Sum.inr (sT x)) = if k == x then some v else valV (kvs ks vs) (Sum.inr (sT x)) := by
  show (List.find? (fun kv : Key × V => decide (kv.1 = Sum.inr (sT x))) ((Sum.inr (sT k), v) :: kvs ks vs)).map (·.2) = _
  rw [List.find?_cons]
  simp only [key_dec]
  cases h : k == x with
  | true => rfl
  | false => rfl
theorem valV_some (x : List Nat) : ∀ (ks : List (List Nat)) (vs : List V), ks.length = vs.length → (valV (kvs ks vs) (Sum.inr (sT x))).isSome = ks.contains x
  | [], [], _ => rfl
  | [], _ :: _, h => by simp at h
  | _ :: _, [], h => by simp at h
  | k :: ks, v :: vs, h => by
    rw [valV_cons, List.contains_cons]
    have ih := valV_some x ks vs (by simpa using h)
    by_cases hk : k = x
    · subst hk; simp
    · have h1 : (k == x) = false := beq_eq_false_iff_ne.mpr hk
      have h2 : (x == k) = false := beq_eq_false_iff_ne.mpr fun e => hk e.symm
      rw [h1, h2]
      simpa using ih
theorem valV_look {ρ : List Addr} (x : List Nat) : ∀ (ks : List (List Nat)) (xs : List PV) (vs : List V), ks.length = vs.length → rvs G F ρ xs vs →
    (∀ p, lookT x ks xs = some p → ∃ v, valV (kvs ks vs) (Sum.inr (sT x)) = some v ∧ rv G F ρ p v) ∧ (lookT x ks xs = none → valV (kvs ks vs) (Sum.inr (sT x)) = none)
  | [], xs, [], _, r => ⟨fun p h => by cases xs <;> simp [lookT] at h, fun _ => rfl⟩
  | [], xs, _ :: _, h, _ => by simp at h
  | _ :: _, xs, [], h, _ => by simp at h
  | k :: ks, [], v :: vs, h, r => by unfold rvs at r; cases r
  | k :: ks, y :: ys, v :: vs, h, r => by
    unfold rvs at r
    obtain ⟨w, r', e, a, b⟩ := r
    cases e
    have ih := valV_look x ks ys vs (by simpa using h) b
    rw [valV_cons]
    unfold lookT
    cases hk : k == x with
    | true => exact ⟨fun p h => by simp at h; subst h; exact ⟨v, rfl, a⟩, fun h => by simp at h⟩
    | false => simpa using ih
/-- a comparison of plain values -/
theorem cmp_data {k : Nat} {o : COp} {p q : PV} {x y : V} {v u : Value} {Q : VK} (hr : Room (k + 1) X.A) (hK : X.K = G.K) (I : Inv X pins σ H s) (r1 : RelV x v) (r2 : RelV y u) (hS : SR G F ρ H S) (h1 : rv G F ρ p x) (h2 : rv G F ρ q y)
    (hP : Post G F ρ H ((opt (cmpD o p q S) S).bind fun b S => .ok (.bl b) S) (rv G) Q W) : wpAny (model X.prog X.w) X.A (compareOp (opC o) v u) (EP X pins σ Q) X.xe s := by
  have eqs : ∀ p' q', thaw S p = some p' → thaw S q = some q' → ∀ b, eqD p' q' = some b → ∃ d e, Dp X.K H x d ∧ Dp X.K H y e ∧ SeqAt.shaped d = true ∧ SeqAt.shaped e = true ∧ PyData.eqv d e = b := fun p' q' hp hq b he => by
    unfold eqD at he
    by_cases hc : (isD p' && isD q' && decide (dep p' ≤ 60) && decide (dep q' ≤ 60)) = true
    · rw [if_pos hc] at he
      cases he
      obtain ⟨c1, c2, c3, c4⟩ := and4 hc
      obtain ⟨d1, l1⟩ := dp_rh hS.sub c1 (thaw_ok hS h1 hp)
      obtain ⟨d2, l2⟩ := dp_rh hS.sub c2 (thaw_ok hS h2 hq)
      exact ⟨pd p', pd q', by rw [hK]; exact d1, by rw [hK]; exact d2, shaped_of c1 l1 (of_decide_eq_true c3), shaped_of c2 l2 (of_decide_eq_true c4), eqv_pd p' q' c1 c2⟩
    · rw [if_neg hc] at he; cases he
  have ins : ∀ xs, items S q = some xs → (isD p && isDs xs && decide (dep p ≤ 60) && decide (deps xs ≤ 60)) = true → ∃ d, Dp X.K H x d ∧ SeqAt.shaped d = true ∧ ((pds xs).any fun z => PyData.eqv z d) = isIn p xs ∧ ((Dp X.K H y (.list (pds xs)) ∧ SeqAt.shaped (.list (pds xs)) = true) ∨ (Dp X.K H y (.tuple (pds xs)) ∧ SeqAt.shaped (.tuple (pds xs)) = true)) := fun xs hx hc => by
    obtain ⟨c1, c2, c3, c4⟩ := and4 hc
    refine ⟨pd p, by rw [hK]; exact dp_pd hS.sub p x c1 h1, shaped_of c1 (lay_pd p x c1 h1) (of_decide_eq_true c3), any_pds p c1 xs c2, ?_⟩
    rw [hK]
    exact seq_dp hS h2 hx c2 (of_decide_eq_true c4)
  revert hP
  unfold cmpD
  split
  · rename_i i j
    intro hP
    exact op_lt pins s σ H x y v u Q I r1 r2 ⟨i, j, rv_int h1, rv_int h2, q_bl hP hS⟩
  · rename_i i j
    intro hP
    exact op_le pins s σ H x y v u Q I r1 r2 ⟨i, j, rv_int h1, rv_int h2, q_bl hP hS⟩
  · rename_i i j
    intro hP
    exact op_gt pins s σ H x y v u Q I r1 r2 ⟨i, j, rv_int h1, rv_int h2, q_bl hP hS⟩
  · rename_i i j
    intro hP
    exact op_ge pins s σ H x y v u Q I r1 r2 ⟨i, j, rv_int h1, rv_int h2, q_bl hP hS⟩
  · rename_i a b
    intro hP
    refine op_lt_str pins s σ H x y v u Q I r1 r2 ⟨sT a, sT b, (rv_str h1).1, (rv_str h2).1, ?_⟩
    show Q (.bl (decide (a < b))) H
    rw [← ltT_dec]
    exact q_bl hP hS
  · rename_i a b
    intro hP
    refine op_gt_str pins s σ H x y v u Q I r1 r2 ⟨sT a, sT b, (rv_str h1).1, (rv_str h2).1, ?_⟩
    show Q (.bl (decide (b < a))) H
    rw [← ltT_dec]
    exact q_bl hP hS
  · rename_i a b
    split
    · rename_i c
      intro hP
      refine op_in_sign pins s σ H x y v u Q I r1 r2 ⟨c, sT b, (rv_str h1).1, (rv_str h2).1, ?_⟩
      show Q (.bl (decide (c ∈ b))) H
      rw [← hasC_mem]
      exact q_bl hP hS
    · intro hP; exact hP.elim
  · rename_i a b
    split
    · rename_i c
      intro hP
      refine op_notIn_sign pins s σ H x y v u Q I r1 r2 ⟨c, sT b, (rv_str h1).1, (rv_str h2).1, ?_⟩
      show Q (.bl (!decide (c ∈ b))) H
      rw [← hasC_mem]
      exact q_bl hP hS
    · intro hP; exact hP.elim
  · intro hP
    have e2 : y = .non := by unfold rv at h2; exact h2
    refine op_isN pins s σ H x y v u Q I r1 r2 ⟨e2, ?_⟩
    cases p with
    | non => unfold rv at h1; subst h1; exact q_bl hP hS
    | bl b => unfold rv at h1; subst h1; exact q_bl hP hS
    | int b => unfold rv at h1; subst h1; exact q_bl hP hS
    | str b => unfold rv at h1; rw [h1.1]; exact q_bl hP hS
    | tup b => unfold rv at h1; obtain ⟨_, _, rfl, _⟩ := h1; exact q_bl hP hS
    | lst b => unfold rv at h1; obtain ⟨_, _, rfl, _⟩ := h1; exact q_bl hP hS
    | dct a b => unfold rv at h1; obtain ⟨_, _, rfl, _⟩ := h1; exact q_bl hP hS
    | ins a b => unfold rv at h1; obtain ⟨_, _, _, rfl, _⟩ := h1; exact q_bl hP hS
    | cell b => unfold rv at h1; obtain ⟨_, rfl, _⟩ := h1; exact q_bl hP hS
    | obj b => unfold rv at h1; subst h1; exact q_bl hP hS
    | ex a b => unfold rv at h1; obtain ⟨_, _, _, rfl, _⟩ := h1; exact q_bl hP hS
  · intro hP
    have e2 : y = .non := by unfold rv at h2; exact h2
    refine op_notN pins s σ H x y v u Q I r1 r2 ⟨e2, ?_⟩
    cases p with
    | non => unfold rv at h1; subst h1; exact q_bl hP hS
    | bl b => unfold rv at h1; subst h1; exact q_bl hP hS
    | int b => unfold rv at h1; subst h1; exact q_bl hP hS
    | str b => unfold rv at h1; rw [h1.1]; exact q_bl hP hS
    | tup b => unfold rv at h1; obtain ⟨_, _, rfl, _⟩ := h1; exact q_bl hP hS
    | lst b => unfold rv at h1; obtain ⟨_, _, rfl, _⟩ := h1; exact q_bl hP hS
    | dct a b => unfold rv at h1; obtain ⟨_, _, rfl, _⟩ := h1; exact q_bl hP hS
    | ins a b => unfold rv at h1; obtain ⟨_, _, _, rfl, _⟩ := h1; exact q_bl hP hS
    | cell b => unfold rv at h1; obtain ⟨_, rfl, _⟩ := h1; exact q_bl hP hS
    | obj b => unfold rv at h1; subst h1; exact q_bl hP hS
    | ex a b => unfold rv at h1; obtain ⟨_, _, _, rfl, _⟩ := h1; exact q_bl hP hS
  · intro hP
    cases hp : thaw S p with
    | none => rw [hp] at hP; exact hP.elim
    | some p' =>
      cases hq : thaw S q with
      | none => rw [hp, hq] at hP; exact hP.elim
      | some q' =>
        rw [hp, hq] at hP
        simp only [Option.bind_some] at hP
        cases he : eqD p' q' with
        | none => rw [he] at hP; exact hP.elim
        | some b =>
          rw [he] at hP
          obtain ⟨d, e, d1, d2, s1, s2, eb⟩ := eqs p' q' hp hq b he
          exact op_eqD hr.units pins s σ H x y v u Q I r1 r2 ⟨d, e, d1, d2, s1, s2, by rw [eb]; exact q_bl hP hS⟩
  · intro hP
    cases hp : thaw S p with
    | none => rw [hp] at hP; exact hP.elim
    | some p' =>
      cases hq : thaw S q with
      | none => rw [hp, hq] at hP; exact hP.elim
      | some q' =>
        rw [hp, hq] at hP
        simp only [Option.bind_some] at hP
        cases he : eqD p' q' with
        | none => rw [he] at hP; exact hP.elim
        | some b =>
          rw [he] at hP
          obtain ⟨d, e, d1, d2, s1, s2, eb⟩ := eqs p' q' hp hq b he
          exact op_neD hr.units pins s σ H x y v u Q I r1 r2 ⟨d, e, d1, d2, s1, s2, by rw [eb]; exact q_bl hP hS⟩
  · rename_i a ks ws
    intro hP
    unfold rv at h2
    obtain ⟨d, vs, e2, q2, hl, _⟩ := h2
    have e1 := rv_str h1
    obtain rfl : u = Value.ref d := by rw [e2] at r2; exact r2
    obtain ⟨t, rfl⟩ : ∃ t, v = Value.str (sT a) t := by rw [e1.1] at r1; exact r1
    exact d_in (Nat.lt_of_le_of_lt (Nat.add_le_add_left (by decide : 1 ≤ 64) _) hr.units) I (y := kV (Sum.inr (sT a))) (.inl ⟨_, Sum.inr (sT a), rd_mono hS.sub q2, rfl, rfl⟩) ⟨t, rfl⟩ fun s3 I3 => ⟨.bl _, H, I3, rfl, by rw [valV_some a ks vs hl]; exact q_bl hP hS⟩
  · rename_i a ks ws
    intro hP
    unfold rv at h2
    obtain ⟨d, vs, e2, q2, hl, _⟩ := h2
    have e1 := rv_str h1
    obtain rfl : u = Value.ref d := by rw [e2] at r2; exact r2
    obtain ⟨t, rfl⟩ : ∃ t, v = Value.str (sT a) t := by rw [e1.1] at r1; exact r1
    exact d_notIn (Nat.lt_of_le_of_lt (Nat.add_le_add_left (by decide : 1 ≤ 64) _) hr.units) I (y := kV (Sum.inr (sT a))) (.inl ⟨_, Sum.inr (sT a), rd_mono hS.sub q2, rfl, rfl⟩) ⟨t, rfl⟩ fun s3 I3 => ⟨.bl _, H, I3, rfl, by rw [valV_some a ks vs hl]; exact q_bl hP hS⟩
  · intro hP
    cases hq : items S q with
    | none => rw [hq] at hP; exact hP.elim
    | some xs =>
      rw [hq] at hP
      simp only [Option.bind_some] at hP
      by_cases hc : (isD p && isDs xs && decide (dep p ≤ 60) && decide (deps xs ≤ 60)) = true
      · rw [if_pos hc] at hP
        obtain ⟨d, d1, s1, eb, hh⟩ := ins xs hq hc
        rcases hh with ⟨hh, hs⟩ | ⟨hh, hs⟩
        · exact op_inD (room65 hr) pins s σ H x y v u Q I r1 r2 ⟨d, _, d1, hh, s1, hs, by rw [eb]; exact q_bl hP hS⟩
        · exact op_inT (room65 hr) pins s σ H x y v u Q I r1 r2 ⟨d, _, d1, hh, s1, hs, by rw [eb]; exact q_bl hP hS⟩
      · rw [if_neg hc] at hP; exact hP.elim
  · intro hP
    cases hq : items S q with
    | none => rw [hq] at hP; exact hP.elim
    | some xs =>
      rw [hq] at hP
      simp only [Option.bind_some] at hP
      by_cases hc : (isD p && isDs xs && decide (dep p ≤ 60) && decide (deps xs ≤ 60)) = true
      · rw [if_pos hc] at hP
        obtain ⟨d, d1, s1, eb, hh⟩ := ins xs hq hc
        rcases hh with ⟨hh, hs⟩ | ⟨hh, hs⟩
        · exact op_notInD (room65 hr) pins s σ H x y v u Q I r1 r2 ⟨d, _, d1, hh, s1, hs, by rw [eb]; exact q_bl hP hS⟩
        · exact op_notInT (room65 hr) pins s σ H x y v u Q I r1 r2 ⟨d, _, d1, hh, s1, hs, by rw [eb]; exact q_bl hP hS⟩
      · rw [if_neg hc] at hP; exact hP.elim
  · intro hP; exact hP.elim
end
end Ev
set_option Elab.async false
set_option linter.all false
set_option maxRecDepth 100000
set_option maxHeartbeats 1000000
/-! E8: argument lists, displays, subscripts, slices. -/
namespace Ev
open PySem L2
open PyProof.Rows hiding St

section
variable {G : Rt} {X : Cx} {W : WX} {pins : List (Addr × Obj)} {σ : Slots} {H : Hp} {s : Shared} {F : Hp} {ρ : List Addr} {e : Env} {S : Store}
/-! ### argument lists -/
def nostar : Expr → Bool
  | .Starred _ _ => false
  | _ => true
theorem star_no {a : Expr} {es : List Expr} {env : PySem.Env} (h : nostar a = true) : starEach (a :: es) env = (false, eval a env) :: starEach es env := by
  cases a <;> first | rfl | exact absurd h (by simp [nostar])
theorem sl_nil : PA X [] (tL G W fun _ S => .ok [] S) :=
  ⟨fun pos pins s σ H Q I ⟨F, ρ, e, S, hS, hE, hP⟩ => pa_nil.run pos pins s σ H Q I (Post.ok (a := ([] : List PV)) (b := ([] : List V)) hP hS (by unfold rvs; rfl))⟩
def consL (x : Env → Store → R PV) (y : Env → Store → R (List PV)) : Env → Store → R (List PV) := fun e S => (x e S).bind fun p S => (y e S).bind fun ps S => .ok (p :: ps) S
def starL (x : Env → Store → R PV) (y : Env → Store → R (List PV)) : Env → Store → R (List PV) := fun e S => (x e S).bind fun p S => (opt (items S p) S).bind fun xs S => (y e S).bind fun ps S => .ok (xs ++ ps) S
theorem sl_cons {a : Expr} {es : List Expr} {x : Env → Store → R PV} {y : Env → Store → R (List PV)} (hn : nostar a = true) (ha : PE X a (tE G W x)) (hr : PA X es (tL G W y)) : PA X (a :: es) (tL G W (consL x y)) := by
  refine ⟨fun pos pins s σ H Q I ⟨F, ρ, e, S, hS, hE, hP⟩ => (pa_cons ha hr (star_no hn)).run pos pins s σ H Q I ?_⟩
  unfold consL at hP
  refine ⟨F, ρ, e, S, hS, hE, ?_⟩
  cases hx : x e S with
  | exc z S1 => rw [hx] at hP; exact hP
  | bad => rw [hx] at hP; exact hP.elim
  | ok p S1 =>
    rw [hx] at hP
    intro F1 ρ1 H1 v x1 hS1 q1
    have hP1 := Post.mono x1 hP
    refine ⟨F1, ρ1, e, S1, hS1, rE_ext x1 hE, ?_⟩
    simp only [bind_ok] at hP1
    cases hy : y e S1 with
    | exc z S2 => rw [hy] at hP1; exact hP1
    | bad => rw [hy] at hP1; exact hP1.elim
    | ok ps S2 =>
      rw [hy] at hP1
      intro F2 ρ2 H2 vs x2 hS2 q2
      refine Post.okx (b := v :: vs) hP1 x2 hS2 ?_
      unfold rvs
      exact ⟨v, vs, rfl, rv_ext x2 _ _ q1, q2⟩
theorem sl_star {a : Expr} {es : List Expr} {p : Pos} {x : Env → Store → R PV} {y : Env → Store → R (List PV)} (hK : X.K = G.K) (ha : PE X a (tE G W x)) (hr : PA X es (tL G W y)) : PA X (.Starred a p :: es) (tL G W (starL x y)) := by
  refine ⟨fun pos pins s σ H Q I ⟨F, ρ, e, S, hS, hE, hP⟩ => (StX.pa_star ha hr rfl).run pos pins s σ H Q I ?_⟩
  unfold starL at hP
  refine ⟨F, ρ, e, S, hS, hE, ?_⟩
  cases hx : x e S with
  | exc z S1 => rw [hx] at hP; exact hP
  | bad => rw [hx] at hP; exact hP.elim
  | ok p S1 =>
    rw [hx] at hP
    intro F1 ρ1 H1 v x1 hS1 q1
    have hP1 := Post.mono x1 hP
    simp only [bind_ok] at hP1
    cases hi : items S1 p with
    | none => rw [hi] at hP1; exact hP1.elim
    | some xs =>
      rw [hi] at hP1
      simp only [opt_some, bind_ok] at hP1
      obtain ⟨a, vs, rfl, hq, hr⟩ := items_ok hS1 q1 hi
      refine ⟨a, vs, rfl, ?_, F1, ρ1, e, S1, hS1, rE_ext x1 hE, ?_⟩
      · rw [hK]; exact hq.symm
      cases hy : y e S1 with
      | exc z S2 => rw [hy] at hP1; exact hP1
      | bad => rw [hy] at hP1; exact hP1.elim
      | ok ps S2 =>
        rw [hy] at hP1
        intro F2 ρ2 H2 ws x2 hS2 q2
        exact Post.okx (b := vs ++ ws) hP1 x2 hS2 (rvs_app (rvs_ext x2 _ _ hr) q2)
/-! ### displays -/
theorem se_tup {es : List Expr} {k : Nat} {pos : Pos} {x : Env → Store → R (List PV)} (h : PA X es (tL G W x)) : PE X (.Tuple es k pos) (tE G W fun e S => (x e S).bind fun ps S => if ps.length ≤ lim then .ok (.tup ps) S else .bad) := by
  refine ⟨fun pins s σ H Q I ⟨F, ρ, e, S, hS, hE, hP⟩ => (pe_tup h).run pins s σ H Q I ?_⟩
  refine ⟨F, ρ, e, S, hS, hE, ?_⟩
  dsimp only at hP
  cases hx : x e S with
  | exc z S1 => rw [hx] at hP; exact hP
  | bad => rw [hx] at hP; exact hP.elim
  | ok ps S1 =>
    rw [hx] at hP
    intro F1 ρ1 H1 vs x1 hS1 q1
    have hP1 := Post.mono x1 hP
    simp only [bind_ok] at hP1
    by_cases hl : ps.length ≤ lim
    · rw [if_pos hl] at hP1
      exact ⟨by rw [← rvs_len q1]; exact Nat.le_trans hl lim_line, mk_tup hP1 hS1 q1⟩
    · rw [if_neg hl] at hP1; exact hP1.elim
theorem se_lst {es : List Expr} {pos : Pos} {x : Env → Store → R (List PV)} (h : PA X es (tL G W x)) : PE X (.List es pos) (tE G W fun e S => (x e S).bind fun ps S => if ps.length ≤ lim then .ok (.lst ps) S else .bad) := by
  refine ⟨fun pins s σ H Q I ⟨F, ρ, e, S, hS, hE, hP⟩ => (pe_lst h).run pins s σ H Q I ?_⟩
  refine ⟨F, ρ, e, S, hS, hE, ?_⟩
  dsimp only at hP
  cases hx : x e S with
  | exc z S1 => rw [hx] at hP; exact hP
  | bad => rw [hx] at hP; exact hP.elim
  | ok ps S1 =>
    rw [hx] at hP
    intro F1 ρ1 H1 vs x1 hS1 q1
    have hP1 := Post.mono x1 hP
    simp only [bind_ok] at hP1
    by_cases hl : ps.length ≤ lim
    · rw [if_pos hl] at hP1
      exact ⟨by rw [← rvs_len q1]; exact Nat.le_trans hl lim_line, mk_lst hP1 hS1 q1⟩
    · rw [if_neg hl] at hP1; exact hP1.elim
/-- a list that will change -/
theorem se_lstc {es : List Expr} {pos : Pos} {x : Env → Store → R (List PV)} (h : PA X es (tL G W x)) : PE X (.List es pos) (tE G W fun e S => (x e S).bind fun ps S => if ps.length ≤ lim then .ok (.cell S.length) (S ++ [.lst ps]) else .bad) := by
  refine ⟨fun pins s σ H Q I ⟨F, ρ, e, S, hS, hE, hP⟩ => (pe_lst h).run pins s σ H Q I ?_⟩
  refine ⟨F, ρ, e, S, hS, hE, ?_⟩
  dsimp only at hP
  cases hx : x e S with
  | exc z S1 => rw [hx] at hP; exact hP
  | bad => rw [hx] at hP; exact hP.elim
  | ok ps S1 =>
    rw [hx] at hP
    intro F1 ρ1 H1 vs x1 hS1 q1
    have hP1 := Post.mono x1 hP
    simp only [bind_ok] at hP1
    by_cases hl : ps.length ≤ lim
    · rw [if_pos hl] at hP1
      refine ⟨by rw [← rvs_len q1]; exact Nat.le_trans hl lim_line, fun p hp => ?_⟩
      obtain ⟨z1, z2⟩ := hS1.cellX hp (o := .lst vs) (c := .lst ps) ⟨vs, rfl, rvs_mono (Same.refl _) (List.prefix_append _ _) _ _ q1⟩
      refine hP1 F1 (ρ1 ++ [p]) (upd H1 p (.lst vs)) (.ref p) z2 z1 ?_
      unfold rv
      exact ⟨p, rfl, by rw [← hS1.len]; simp⟩
    · rw [if_neg hl] at hP1; exact hP1.elim
/-! ### subscripts -/
theorem atI_bind {α : Type} (xs : List α) (i : Int) : ((ixZ xs.length i).bind fun j => xs[j]?) = atI xs i := rfl
theorem rvs_at {xs : List PV} {vs : List V} {i : Int} {p : PV} (r : rvs G F ρ xs vs) (h : ((ixZ xs.length i).bind fun j => xs[j]?) = some p) : ∃ v, atI vs i = some v ∧ rv G F ρ p v := by
  cases hj : ixZ xs.length i with
  | none => rw [hj] at h; cases h
  | some j =>
    rw [hj] at h
    obtain ⟨v, hv, q⟩ := rvs_get r h
    refine ⟨v, ?_, q⟩
    rw [← atI_bind, ← rvs_len r, hj]
    exact hv
theorem okS_one {x : List Nat} {c : Nat} (h : okS x = true) (hc : c ∈ x) : okS [c] = true := by
  unfold okS at h ⊢
  rw [Bool.and_eq_true_iff] at h ⊢
  exact ⟨decide_eq_true (by show 1 ≤ 1000000; decide), by simpa using List.all_eq_true.mp h.2 c hc⟩
theorem se_ix {k : Nat} {a b : Expr} {pos : Pos} {x y : Env → Store → R PV} (hr : Room (k + 1) X.A) (hK : X.K = G.K) (ha : PE X a (tE G W x)) (hb : PE X b (tE G W y)) (hs : PlainIx b) :
    PE X (.Subscript a b pos) (tE G W fun e S => (x e S).bind fun p S => (y e S).bind fun q S => itemE p q S) := by
  refine ⟨fun pins s σ H Q I ⟨F, ρ, e, S, hS, hE, hP⟩ => ?_⟩
  refine Subscript_ (stepE ha I hS hE hP fun p S1 F1 ρ1 H1 v u s1 I1 r1 hS1 x1 hE1 q1 hP1 => ?_)
  refine stepE hb I1 hS1 hE1 hP1 fun q S2 F2 ρ2 H2 v2 u2 s2 I2 r2 hS2 x2 hE2 q2 hP2 => ?_
  replace q1 := rv_ext x2 _ _ q1
  revert hP2
  unfold itemE itemD
  split
  · rename_i ks ws c
    intro hP2
    unfold rv at q1
    obtain ⟨d, vs, e1, z, hl, _, _, hr'⟩ := q1
    have e2 := rv_str q2
    subst e1
    obtain rfl : u = Value.ref d := r1
    obtain ⟨t, rfl⟩ : ∃ t, u2 = Value.str (sT c) t := by rw [e2.1] at r2; exact r2
    cases hk : lookT c ks ws with
    | none => rw [hk] at hP2; exact hP2.elim
    | some p =>
      rw [hk] at hP2
      obtain ⟨w, e3, e4⟩ := (valV_look (G := G) (F := F2) c ks ws vs hl hr').1 p hk
      have g : DGet H2 d (kV (Sum.inr (sT c))) (some w) := .inl ⟨_, Sum.inr (sT c), rd_mono hS2.sub z, rfl, e3.symm⟩
      exact tail_any (dict_typeIs I2 g) PySem.F.slot_dict_getitem.lookup (d_getItem (Nat.lt_of_le_of_lt (Nat.add_le_add_left (by decide : 1 ≤ 64) _) hr.units) I2 g (show RelV (.str (sT c)) _ from ⟨t, rfl⟩) fun w' s3 I3 r3 => ⟨w, H2, I3, r3, hP2.ok hS2 e4⟩) (hs _ _)
  · rename_i c i
    intro hP2
    have e1 := rv_str q1
    have e2 := rv_int q2
    cases hk : (ixZ c.length i).bind fun j => c[j]?.map fun c => PV.str [c] with
    | none => rw [hk] at hP2; exact hP2.elim
    | some p =>
      rw [hk] at hP2
      obtain ⟨z, hz, rfl⟩ : ∃ z, atI c i = some z ∧ p = .str [z] := by
        rw [← atI_bind]
        cases hj : ixZ c.length i with
        | none => rw [hj] at hk; cases hk
        | some j =>
          rw [hj] at hk
          simp only [Option.bind_some] at hk ⊢
          cases hc : c[j]? with
          | none => rw [hc] at hk; cases hk
          | some z => rw [hc] at hk; cases hk; exact ⟨z, rfl, rfl⟩
      have hm : z ∈ c := by
        obtain ⟨j, _, hj, _⟩ := atI_get hz
        exact List.mem_of_getElem? hj
      exact ix_str a b pins s2 σ H2 v v2 u u2 Q I2 r1 r2 ⟨sT c, i, z, e1.1, e2, Nat.le_trans (okS_len e1.2) lim_line, hz, q_str hP2 hS2 (okS_one e1.2 hm)⟩ (hs _ _)
  · rename_i i hc
    intro hP2
    cases hk : items S2 p with
    | none => rw [hk] at hP2; exact hP2.elim
    | some xs =>
      rw [hk] at hP2
      simp only [Option.bind_some] at hP2
      obtain ⟨d, vs, e1, z, hr'⟩ := items_ok hS2 q1 hk
      have e2 := rv_int q2
      cases hj : (ixZ xs.length i).bind fun j => xs[j]? with
      | none => rw [hj] at hP2; exact hP2.elim
      | some p' =>
        rw [hj] at hP2
        obtain ⟨w, hw, qw⟩ := rvs_at hr' hj
        rcases z with z | z
        · exact ix_list a b pins s2 σ H2 v v2 u u2 Q I2 r1 r2 ⟨d, vs, i, w, e1, e2, by rw [hK]; exact z, hw, hP2.ok hS2 qw⟩ (hs _ _)
        · exact ix_tup a b pins s2 σ H2 v v2 u u2 Q I2 r1 r2 ⟨d, vs, i, w, e1, e2, by rw [hK]; exact z, hw, hP2.ok hS2 qw⟩ (hs _ _)
  · intro hP2; exact hP2.elim
/-! ### slices -/
def tP (G : Rt) (W : WX) (x : Env → Store → R (Option Int)) : TO := fun σ H Q => ∃ F ρ e S, SR G F ρ H S ∧ rE G F ρ e σ ∧ Post G F ρ H (x e S) (fun _ _ a b => a = b) Q (fun cls d H' => W cls d σ H')
theorem so_none {y : Env → Store → R PV} : PO X none (tP G W (partE true y)) :=
  ⟨fun pins s σ H Q I ⟨F, ρ, e, S, hS, hE, hP⟩ => po_none.run pins s σ H Q I (Post.ok (a := (none : Option Int)) (b := none) hP hS rfl)⟩
theorem so_some {a : Expr} {y : Env → Store → R PV} (ha : PE X a (tE G W y)) : PO X (some a) (tP G W (partE false y)) := by
  refine ⟨fun pins s σ H Q I ⟨F, ρ, e, S, hS, hE, hP⟩ => (po_some ha).run pins s σ H Q I ⟨F, ρ, e, S, hS, hE, ?_⟩⟩
  unfold partE at hP
  simp only [Bool.false_eq_true, if_false] at hP
  cases hy : y e S with
  | exc z S1 => rw [hy] at hP; exact hP
  | bad => rw [hy] at hP; exact hP.elim
  | ok p S1 =>
    rw [hy] at hP
    intro F1 ρ1 H1 v x1 hS1 q1
    cases p with
    | int i =>
      rw [rv_int q1]
      exact ⟨i, rfl, Post.okx (a := some i) (b := some i) hP x1 hS1 rfl⟩
    | _ => exact (show False from hP).elim
theorem clamp_eq (n d : Nat) (o : Option Int) : (match o with | none => d | some i => clampI n i) = HT.sIx n d o := by
  cases o <;> rfl
theorem cutL_eq {α : Type} (xs : List α) (lo hi : Option Int) : cutL xs lo hi = (xs.drop (HT.sIx xs.length 0 lo)).take (HT.sIx xs.length xs.length hi - HT.sIx xs.length 0 lo) := by
  have e1 := clamp_eq xs.length 0 lo
  have e2 := clamp_eq xs.length xs.length hi
  rw [← e1, ← e2]
  rfl
theorem rvs_cut {xs : List PV} {vs : List V} (r : rvs G F ρ xs vs) (lo hi : Option Int) : rvs G F ρ (cutL xs lo hi) (cutV vs lo hi) := by
  rw [cutL_eq]
  unfold cutV
  rw [rvs_len r]
  exact rvs_take _ (rvs_drop _ r)
theorem okS_cut {x : List Nat} (h : okS x = true) (lo hi : Option Int) : okS (cutL x lo hi) = true := by
  unfold okS at h ⊢
  rw [Bool.and_eq_true_iff] at h ⊢
  rw [cutL_eq]
  constructor
  · have h1 := of_decide_eq_true h.1
    refine decide_eq_true (Nat.le_trans ?_ h1)
    rw [List.length_take, List.length_drop]
    omega
  · refine List.all_eq_true.mpr fun c hc => List.all_eq_true.mp h.2 c (List.mem_of_mem_drop (List.mem_of_mem_take hc))
theorem cutS_eq (x : List Nat) (lo hi : Option Int) : cutS (sT x) lo hi = sT (cutL x lo hi) := by
  rw [cutL_eq]
  rfl
theorem se_sl {a : Expr} {lo hi : Option Expr} {pos p2 : Pos} {x : Env → Store → R PV} {y z : Env → Store → R (Option Int)} (hK : X.K = G.K) (ha : PE X a (tE G W x)) (hl : PO X lo (tP G W y)) (hh : PO X hi (tP G W z)) :
    PE X (.Subscript a (.Slice lo hi none p2) pos) (tE G W fun e S => (x e S).bind fun p S => (y e S).bind fun q S => (z e S).bind fun r S => opt (sliceD p q r S) S) := by
  refine ⟨fun pins s σ H Q I ⟨F, ρ, e, S, hS, hE, hP⟩ => (pe_slice (r := fun x lo hi H Q => ∃ F ρ S p, SR G F ρ H S ∧ rv G F ρ p x ∧ Post G F ρ H (opt (sliceD p lo hi S) S) (rv G) Q (fun cls d H' => W cls d σ H')) ?_ ha hl hh).run pins s σ H Q I ⟨F, ρ, e, S, hS, hE, ?_⟩⟩
  · intro pins s σ' H x v vl vu lo hi sl Q I rx hs pl pu ⟨F, ρ, S, p, hS, hv, hP⟩
    revert hP
    unfold sliceD
    split
    · rename_i c
      intro hP
      have e1 := rv_str hv
      refine sl_str pins s σ' H x v vl vu lo hi sl Q I rx hs pl pu ⟨sT c, e1.1, Nat.le_trans (okS_len e1.2) lim_line, ?_⟩
      rw [cutS_eq]
      exact q_str hP hS (okS_cut e1.2 _ _)
    · rename_i xs
      intro hP
      unfold rv at hv
      obtain ⟨d, vs, e1, z, r⟩ := hv
      refine sl_tupA pins s σ' H x v vl vu lo hi sl Q I rx hs pl pu ⟨d, vs, e1, by rw [hK]; exact sqT_mono hS.sub z, fun hw => ?_, fun _ => mk_tup hP hS (rvs_cut r _ _)⟩
      refine tup_known hP hS z ?_
      have := rvs_cut r lo hi
      unfold cutV at this
      rw [hw.1, hw.2] at this
      simpa using this
    · rename_i xs
      intro hP
      unfold rv at hv
      obtain ⟨d, vs, e1, z, r⟩ := hv
      exact sl_list pins s σ' H x v vl vu lo hi sl Q I rx hs pl pu ⟨d, vs, e1, SqL.of (hS.sub _ _ z), mk_lst hP hS (rvs_cut r _ _)⟩
    · rename_i cc xs
      intro hP
      by_cases hc : (cc == scrN) = true
      · rw [if_pos hc] at hP
        unfold rv at hv
        obtain ⟨_, d, vs, e1, z, r⟩ := hv
        exact sl_list pins s σ' H x v vl vu lo hi sl Q I rx hs pl pu ⟨d, vs, e1, by rw [hK]; exact sqL_mono hS.sub z, mk_lst hP hS (rvs_cut r _ _)⟩
      · rw [if_neg hc] at hP; exact hP.elim
    · rename_i i
      intro hP
      unfold rv at hv
      obtain ⟨d, e1, hi'⟩ := hv
      obtain ⟨c, u, hc, hu⟩ := hS.there hi'
      simp only [hc] at hP
      cases c with
      | lst xs =>
        obtain ⟨vs, e2, r⟩ := hS.at_ i _ d hc hi'
        exact sl_list pins s σ' H x v vl vu lo hi sl Q I rx hs pl pu ⟨d, vs, e1, SqL.of e2, mk_lst hP hS (rvs_cut r _ _)⟩
      | scr xs =>
        obtain ⟨u, vs, e2, r⟩ := hS.at_ i _ d hc hi'
        exact sl_list pins s σ' H x v vl vu lo hi sl Q I rx hs pl pu ⟨d, vs, e1, .inl (.inr ⟨u, e2⟩), mk_lst hP hS (rvs_cut r _ _)⟩
      | dct _ _ => exact hP.elim
      | ins _ _ => exact hP.elim
      | dead => exact hP.elim
    · intro hP; exact hP.elim
  · dsimp only at hP
    cases hx : x e S with
    | exc z S1 => rw [hx] at hP; exact hP
    | bad => rw [hx] at hP; exact hP.elim
    | ok p S1 =>
      rw [hx] at hP
      intro F1 ρ1 H1 v x1 hS1 q1
      have hP1 := Post.mono x1 hP
      simp only [bind_ok] at hP1
      refine ⟨F1, ρ1, e, S1, hS1, rE_ext x1 hE, ?_⟩
      cases hy : y e S1 with
      | exc z S2 => rw [hy] at hP1; exact hP1
      | bad => rw [hy] at hP1; exact hP1.elim
      | ok q S2 =>
        rw [hy] at hP1
        intro F2 ρ2 H2 o2 x2 hS2 q2
        have hP2 := Post.mono x2 hP1
        subst q2
        simp only [bind_ok] at hP2
        refine ⟨F2, ρ2, e, S2, hS2, rE_ext (x1.trans x2) hE, ?_⟩
        cases hz : z e S2 with
        | exc z' S3 => rw [hz] at hP2; exact hP2
        | bad => rw [hz] at hP2; exact hP2.elim
        | ok r S3 =>
          rw [hz] at hP2
          intro F3 ρ3 H3 o3 x3 hS3 q3
          subst q3
          exact ⟨F3, ρ3, S3, p, hS3, rv_ext (x2.trans x3) _ _ q1, Post.mono x3 hP2⟩
end
end Ev
set_option Elab.async false
set_option linter.all false
set_option maxRecDepth 100000
set_option maxHeartbeats 1000000
/-! E9: statements: blocks, assignments, if, while, return. -/
namespace Ev
open PySem L2
open PyProof.Rows hiding St

def PostS (G : Rt) (F : Hp) (ρ : List Addr) (H : Hp) (r : R Fl) (D : Ends) (W : WX) : Prop :=
  match r with
  | .ok (.next e) S => ∀ F' ρ' H' σ', Ext F ρ H F' ρ' H' → SR G F' ρ' H' S → rE G F' ρ' e σ' → D.nx σ' H'
  | .ok (.brk e) S => ∀ F' ρ' H' σ', Ext F ρ H F' ρ' H' → SR G F' ρ' H' S → rE G F' ρ' e σ' → D.bk σ' H'
  | .ok (.cont e) S => ∀ F' ρ' H' σ', Ext F ρ H F' ρ' H' → SR G F' ρ' H' S → rE G F' ρ' e σ' → D.ct σ' H'
  | .ok (.ret p) S => ∀ F' ρ' H' v, Ext F ρ H F' ρ' H' → SR G F' ρ' H' S → rv G F' ρ' p v → D.rt v H'
  | .ok (.exc z e) S => ∀ F' ρ' H' σ' cls d, Ext F ρ H F' ρ' H' → SR G F' ρ' H' S → rE G F' ρ' e σ' → rx G F' ρ' z cls d → W cls d σ' H'
  | .exc _ _ => False
  | .bad => False
theorem PostS.mono {G : Rt} {F F' : Hp} {ρ ρ' : List Addr} {H H' : Hp} {r : R Fl} {D : Ends} {W : WX} (x : Ext F ρ H F' ρ' H') (p : PostS G F ρ H r D W) : PostS G F' ρ' H' r D W := by
  cases r with
  | ok a S =>
    cases a with
    | next e => exact fun F2 ρ2 H2 b y s q => p F2 ρ2 H2 b (x.trans y) s q
    | brk e => exact fun F2 ρ2 H2 b y s q => p F2 ρ2 H2 b (x.trans y) s q
    | cont e => exact fun F2 ρ2 H2 b y s q => p F2 ρ2 H2 b (x.trans y) s q
    | ret e => exact fun F2 ρ2 H2 b y s q => p F2 ρ2 H2 b (x.trans y) s q
    | exc z e => exact fun F2 ρ2 H2 b c d y s q => p F2 ρ2 H2 b c d (x.trans y) s q
  | exc e S => exact p
  | bad => exact p
def tS (G : Rt) (W : WX) (x : Env → Store → R Fl) : TS := fun D σ H => ∃ F ρ e S, SR G F ρ H S ∧ rE G F ρ e σ ∧ PostS G F ρ H (x e S) D W
section
variable {G : Rt} {X : Cx} {W : WX} {pins : List (Addr × Obj)} {σ : Slots} {H : Hp} {s : Shared} {F : Hp} {ρ : List Addr} {e : Env} {S : Store} {D : Ends}
/-- an expression, then what follows in the statement -/
theorem stepS {a : Expr} {x : Env → Store → R PV} (h : PE X a (tE G W x)) (I : Inv X pins σ H s) (hS : SR G F ρ H S) (hE : rE G F ρ e σ) {f : PV → Store → R Fl}
    (hP : PostS G F ρ H ((x e S).bindS e f) D W) {P : Value → Shared → Prop}
    (k : ∀ p S1 F1 ρ1 H1 v u s1, Inv X pins σ H1 s1 → RelV v u → SR G F1 ρ1 H1 S1 → Ext F ρ H F1 ρ1 H1 → rE G F1 ρ1 e σ → rv G F1 ρ1 p v → PostS G F1 ρ1 H1 (f p S1) D W → P u s1) :
    wpAny (model X.prog X.w) X.A (eval a X.env) P X.xe s := by
  refine thn (h.run pins s σ H (fun v H1 => ∃ p S1 F1 ρ1, SR G F1 ρ1 H1 S1 ∧ Ext F ρ H F1 ρ1 H1 ∧ rv G F1 ρ1 p v ∧ PostS G F1 ρ1 H1 (f p S1) D W) I ⟨F, ρ, e, S, hS, hE, ?_⟩) fun u s1 ⟨v, H1, I1, r, p, S1, F1, ρ1, a1, a2, a4, a5⟩ => k p S1 F1 ρ1 H1 v u s1 I1 r a1 a2 (rE_ext a2 hE) a4 a5
  cases hx : x e S with
  | ok p S1 =>
    rw [hx] at hP
    exact fun F1 ρ1 H1 v x1 s1 q => ⟨p, S1, F1, ρ1, s1, x1, q, PostS.mono x1 hP⟩
  | exc z S1 =>
    rw [hx] at hP
    exact fun F1 ρ1 H1 c d x1 s1 q => hP F1 ρ1 H1 σ c d x1 s1 (rE_ext x1 hE) q
  | bad => rw [hx] at hP; exact hP.elim
/-- a test, then what follows in the statement -/
theorem stepST {a : Expr} {x : Env → Store → R PV} (h : PT X a (tT G W x)) (I : Inv X pins σ H s) (hS : SR G F ρ H S) (hE : rE G F ρ e σ) {f : Bool → Store → R Fl}
    (hP : PostS G F ρ H ((truR x e S).bindS e f) D W) {P : Bool → Shared → Prop}
    (k : ∀ b S1 F1 ρ1 H1 s1, Inv X pins σ H1 s1 → SR G F1 ρ1 H1 S1 → Ext F ρ H F1 ρ1 H1 → rE G F1 ρ1 e σ → PostS G F1 ρ1 H1 (f b S1) D W → P b s1) :
    wpAny (model X.prog X.w) X.A (isTrue a X.env (eval a X.env)) P X.xe s := by
  refine thn (h.run pins s σ H (fun b H1 => ∃ S1 F1 ρ1, SR G F1 ρ1 H1 S1 ∧ Ext F ρ H F1 ρ1 H1 ∧ PostS G F1 ρ1 H1 (f b S1) D W) I ⟨F, ρ, e, S, hS, hE, ?_⟩) fun b s1 ⟨H1, I1, S1, F1, ρ1, a1, a2, a5⟩ => k b S1 F1 ρ1 H1 s1 I1 a1 a2 (rE_ext a2 hE) a5
  cases hx : truR x e S with
  | ok p S1 =>
    rw [hx] at hP
    exact fun F1 ρ1 H1 v x1 s1 q => ⟨S1, F1, ρ1, s1, x1, by cases q; exact PostS.mono x1 hP⟩
  | exc z S1 =>
    rw [hx] at hP
    exact fun F1 ρ1 H1 c d x1 s1 q => hP F1 ρ1 H1 σ c d x1 s1 (rE_ext x1 hE) q
  | bad => rw [hx] at hP; exact hP.elim
theorem tru_S (z : Env → Store → R PV) (e : Env) (S : Store) (x y : Env → Store → R Fl) : ((z e S).bindS e fun p S => match tru S p with
    | none => .bad
    | some true => x e S
    | some false => y e S) = (truR z e S).bindS e fun b S => if b = true then x e S else y e S := by
  unfold truR
  cases z e S with
  | ok p S1 =>
    show (match tru S1 p with
      | none => R.bad
      | some true => x e S1
      | some false => y e S1) = (opt (tru S1 p) S1).bindS e _
    cases h : tru S1 p with
    | none => rfl
    | some b => cases b <;> rfl
  | exc z S1 => rfl
  | bad => rfl

/-! ### blocks -/
def seqS (x y : Env → Store → R Fl) : Env → Store → R Fl := fun e S => (x e S).bindB fun f S => match f with
  | .next e => y e S
  | f => .ok f S
theorem ss_nil : PSs X [] (tS G W fun e S => .ok (.next e) S) :=
  ⟨fun pins s σ H D I ⟨F, ρ, e, S, hS, hE, hP⟩ => pss_nil.run pins s σ H D I (hP F ρ H σ .refl hS hE)⟩
theorem ss_one {st : Stmt} {x : Env → Store → R Fl} (h : PS X st (tS G W x)) : PSs X [st] (tS G W x) := pss_one h
theorem ss_cons {st : Stmt} {rest : List Stmt} {x y : Env → Store → R Fl} (h1 : PS X st (tS G W x)) (h2 : PSs X rest (tS G W y)) : PSs X (st :: rest) (tS G W (seqS x y)) := by
  refine ⟨fun pins s σ H D I ⟨F, ρ, e, S, hS, hE, hP⟩ => (pss_cons h1 h2).run pins s σ H D I ⟨F, ρ, e, S, hS, hE, ?_⟩⟩
  unfold seqS at hP
  cases hx : x e S with
  | ok a S1 =>
    rw [hx] at hP
    cases a with
    | next e1 => exact fun F1 ρ1 H1 σ1 x1 s1 q1 => ⟨F1, ρ1, e1, S1, s1, q1, PostS.mono x1 hP⟩
    | brk e1 => exact hP
    | cont e1 => exact hP
    | ret p => exact hP
    | exc z e1 => exact hP
  | exc z S1 => rw [hx] at hP; exact hP.elim
  | bad => rw [hx] at hP; exact hP.elim
/-! ### small statements -/
variable {pos : Pos}
theorem ss_pass : PS X (.Pass pos) (tS G W fun e S => .ok (.next e) S) :=
  ⟨fun pins s σ H D I ⟨F, ρ, e, S, hS, hE, hP⟩ => ps_pass.run pins s σ H D I (hP F ρ H σ .refl hS hE)⟩
theorem ss_break : PS X (.Break pos) (tS G W fun e S => .ok (.brk e) S) :=
  ⟨fun pins s σ H D I ⟨F, ρ, e, S, hS, hE, hP⟩ => ps_break.run pins s σ H D I (hP F ρ H σ .refl hS hE)⟩
theorem ss_cont : PS X (.Continue pos) (tS G W fun e S => .ok (.cont e) S) :=
  ⟨fun pins s σ H D I ⟨F, ρ, e, S, hS, hE, hP⟩ => ps_continue.run pins s σ H D I (hP F ρ H σ .refl hS hE)⟩
theorem ss_ret {a : Expr} {x : Env → Store → R PV} (ha : PE X a (tE G W x)) : PS X (.Return (some a) pos) (tS G W fun e S => (x e S).bindS e fun p S => .ok (.ret p) S) := by
  refine ⟨fun pins s σ H D I ⟨F, ρ, e, S, hS, hE, hP⟩ => ?_⟩
  exact wpAny_Return_some (stepS ha I hS hE hP fun p S1 F1 ρ1 H1 v u s1 I1 r1 hS1 x1 hE1 q1 hP1 => ⟨v, σ, H1, I1, r1, hP1 F1 ρ1 H1 v .refl hS1 q1⟩)
theorem ss_retN : PS X (.Return none pos) (tS G W fun e S => .ok (.ret .non) S) :=
  ⟨fun pins s σ H D I ⟨F, ρ, e, S, hS, hE, hP⟩ => ps_retN.run pins s σ H D I (hP F ρ H .non .refl hS (by unfold rv; rfl))⟩
theorem ss_expr {a : Expr} {x : Env → Store → R PV} (ha : PE X a (tE G W x)) (hs : swapsWith a none pos.line X.env = pure false) : PS X (.Expr a pos) (tS G W fun e S => (x e S).bindS e fun _ S => .ok (.next e) S) := by
  refine ⟨fun pins s σ H D I ⟨F, ρ, e, S, hS, hE, hP⟩ => ?_⟩
  exact wpAny_Expr_any (stepS ha I hS hE hP fun p S1 F1 ρ1 H1 v u s1 I1 r1 hS1 x1 hE1 q1 hP1 => ⟨σ, H1, I1, hP1 F1 ρ1 H1 σ .refl hS1 hE1⟩) I.quiet hs
theorem ss_doc {x : Str} {j p1 p2} : PS X (.Expr (.Constant (.str x) j p1) p2) (tS G W fun e S => .ok (.next e) S) :=
  ⟨fun pins s σ H D I ⟨F, ρ, e, S, hS, hE, hP⟩ => ps_doc.run pins s σ H D I (hP F ρ H σ .refl hS hE)⟩
theorem ss_if {c : Expr} {a b : List Stmt} {z : Env → Store → R PV} {x y : Env → Store → R Fl} (hc : PT X c (tT G W z)) (ha : PSs X a (tS G W x)) (hb : PSs X b (tS G W y)) :
    PS X (.If c a b pos) (tS G W fun e S => (z e S).bindS e fun p S => match tru S p with
      | none => .bad
      | some true => x e S
      | some false => y e S) := by
  refine ⟨fun pins s σ H D I ⟨F, ρ, e, S, hS, hE, hP⟩ => ?_⟩
  dsimp only at hP
  rw [tru_S] at hP
  refine wpAny_If (stepST hc I hS hE hP fun k S1 F1 ρ1 H1 s1 I1 hS1 x1 hE1 hP1 => ?_)
  cases k with
  | true => exact ha.run pins s1 σ H1 D I1 ⟨F1, ρ1, e, S1, hS1, hE1, hP1⟩
  | false => exact hb.run pins s1 σ H1 D I1 ⟨F1, ρ1, e, S1, hS1, hE1, hP1⟩
/-! ### targets -/
def PostG (G : Rt) (F : Hp) (ρ : List Addr) (H : Hp) (r : R Env) (Q : Slots → Hp → Prop) : Prop := match r with
  | .ok e S => ∀ F' ρ' H' σ', Ext F ρ H F' ρ' H' → SR G F' ρ' H' S → rE G F' ρ' e σ' → Q σ' H'
  | _ => False
theorem PostG.mono {F F' : Hp} {ρ ρ' : List Addr} {H H' : Hp} {r : R Env} {Q : Slots → Hp → Prop} (x : Ext F ρ H F' ρ' H') (p : PostG G F ρ H r Q) : PostG G F' ρ' H' r Q := by
  cases r with
  | ok a S => exact fun F2 ρ2 H2 b y s q => p F2 ρ2 H2 b (x.trans y) s q
  | exc e S => exact p
  | bad => exact p
def tG (G : Rt) (x : PV → Env → Store → R Env) : TG := fun v σ H Q => ∃ F ρ e S p, SR G F ρ H S ∧ rE G F ρ e σ ∧ rv G F ρ p v ∧ PostG G F ρ H (x p e S) Q
def tGs (G : Rt) (x : List PV → Env → Store → R Env) : TGs := fun vs σ H Q => ∃ F ρ e S ps, SR G F ρ H S ∧ rE G F ρ e σ ∧ rvs G F ρ ps vs ∧ PostG G F ρ H (x ps e S) Q
theorem sg_name {i : Nat} {x : Str} (hN : X.N.Nodup) (hi : X.N[i]? = some x) (hx : Loc X.env.scope x) (hf : X.fn x = true ∨ X.env.scope.names.lookup x = some .local) :
    PG X (.Name x pos) (tG G fun p e S => if i < e.length then .ok (e.set i (some p)) S else .bad) := by
  refine ⟨fun pins s σ H v u Q I r ⟨F, ρ, e, S, p, hS, hE, hv, hP⟩ => (pg_name hN hi hx hf).run pins s σ H v u Q I r ?_⟩
  dsimp only at hP
  by_cases h : i < e.length
  · rw [if_pos h] at hP
    exact hP F ρ H (σ.set i (some v)) .refl hS (rE_set hE hv)
  · rw [if_neg h] at hP; exact hP.elim
theorem sgs_nil : PGs X [] (tGs G fun vs e S => match vs with
    | [] => .ok e S
    | _ => .bad) := by
  refine ⟨fun pins s σ H vs us Q I r ⟨F, ρ, e, S, ps, hS, hE, hv, hP⟩ => pgs_nil.run pins s σ H vs us Q I r ?_⟩
  cases ps with
  | nil => unfold rvs at hv; exact ⟨hv, hP F ρ H σ .refl hS hE⟩
  | cons a b => exact hP.elim
theorem sgs_cons {a : Expr} {es : List Expr} {x : PV → Env → Store → R Env} {y : List PV → Env → Store → R Env} (hn : nostar a = true) (h1 : PG X a (tG G x)) (h2 : PGs X es (tGs G y)) :
    PGs X (a :: es) (tGs G fun vs e S => match vs with
      | v :: r => (x v e S).bind fun e S => y r e S
      | _ => .bad) := by
  have hs : (assignEach (a :: es) X.env).map (·.2) = assign a X.env :: (assignEach es X.env).map (·.2) := by
    cases a <;> first | rfl | exact absurd hn (by simp [nostar])
  refine ⟨fun pins s σ H vs us Q I r ⟨F, ρ, e, S, ps, hS, hE, hv, hP⟩ => (pgs_cons h1 h2 hs).run pins s σ H vs us Q I r ?_⟩
  cases ps with
  | nil => exact hP.elim
  | cons p ps =>
    unfold rvs at hv
    obtain ⟨v, vr, rfl, q1, q2⟩ := hv
    refine ⟨v, vr, rfl, F, ρ, e, S, p, hS, hE, q1, ?_⟩
    dsimp only at hP
    cases hx : x p e S with
    | ok e1 S1 =>
      rw [hx] at hP
      exact fun F1 ρ1 H1 σ1 x1 s1 w1 => ⟨F1, ρ1, e1, S1, ps, s1, w1, rvs_ext x1 _ _ q2, PostG.mono x1 hP⟩
    | exc z S1 => rw [hx] at hP; exact hP.elim
    | bad => rw [hx] at hP; exact hP.elim
theorem sg_tup {es : List Expr} {k n : Nat} {y : List PV → Env → Store → R Env} (hK : X.K = G.K) (hc : X.calm = true) (h : PGs X es (tGs G y)) (hn : (assignEach es X.env).length = n) (hst : (assignEach es X.env).findIdx? (·.1) = none)
    (hy : ∀ vs e S, (∃ e' S', y vs e S = .ok e' S') → vs.length = n) :
    PG X (.Tuple es k pos) (tG G fun p e S => match p with
      | .tup xs => y xs e S
      | _ => .bad) := by
  refine ⟨fun pins s σ H v u Q I r ⟨F, ρ, e, S, p, hS, hE, hv, hP⟩ => (pg_tup hc h hn hst).run pins s σ H v u Q I r ?_⟩
  cases p with
  | tup xs =>
    unfold rv at hv
    obtain ⟨a, vs, rfl, z, r⟩ := hv
    refine ⟨a, vs, rfl, by rw [hK]; exact sqT_mono hS.sub z, ?_, F, ρ, e, S, xs, hS, hE, r, hP⟩
    rw [← rvs_len r]
    dsimp only at hP
    cases hx : y xs e S with
    | ok e1 S1 => exact hy xs e S ⟨e1, S1, hx⟩
    | exc z S1 => rw [hx] at hP; exact hP.elim
    | bad => rw [hx] at hP; exact hP.elim
  | _ => exact (show False from hP).elim
/-! ### assignments -/
/-- target = value -/
theorem ss_asg {tg a : Expr} {x : Env → Store → R PV} {t : PV → Env → Store → R Env} (ha : PE X a (tE G W x)) (hg : PG X tg (tG G t)) (hs : swapsWithSole [tg] a pos.line X.env = pure false) (hw : swappedStores [tg] a X.env = pure none)
    (h1 : (assignEach [tg] X.env).map (·.2) = [assign tg X.env]) : PS X (.Assign [tg] a pos) (tS G W fun e S => (x e S).bindS e fun p S => (t p e S).bindB fun e S => .ok (.next e) S) := by
  refine ⟨fun pins s σ H D I ⟨F, ρ, e, S, hS, hE, hP⟩ => (ps_asg ha hg hs hw h1).run pins s σ H D I ⟨F, ρ, e, S, hS, hE, ?_⟩⟩
  dsimp only at hP
  cases hx : x e S with
  | ok p S1 =>
    rw [hx] at hP
    intro F1 ρ1 H1 v x1 hS1 q1
    refine ⟨F1, ρ1, e, S1, p, hS1, rE_ext x1 hE, q1, ?_⟩
    have hP1 := PostS.mono x1 hP
    simp only [R.bindS] at hP1
    cases ht : t p e S1 with
    | ok e1 S2 => rw [ht] at hP1; exact hP1
    | exc z S2 => rw [ht] at hP1; exact hP1.elim
    | bad => rw [ht] at hP1; exact hP1.elim
  | exc z S1 =>
    rw [hx] at hP
    exact fun F1 ρ1 H1 c d x1 s1 q => hP F1 ρ1 H1 σ c d x1 s1 (rE_ext x1 hE) q
  | bad => rw [hx] at hP; exact hP.elim
/-! ### while -/
theorem ss_while {c : Expr} {body : List Stmt} {z : Env → Store → R PV} {y : Env → Store → R Fl} (hp : PassesOwn (model X.prog X.w) X.A X.env X.xe) (hc : PT X c (tT G W z)) (hb : PSs X body (tS G W y)) (n : Nat) :
    PS X (.While c body [] pos) (tS G W fun e S => whileLoop z y n e S) := by
  refine ⟨fun pins s σ H D I ⟨F, ρ, e, S, hS, hE, hP⟩ => (ps_while hp hc hb).run pins s σ H D I ?_⟩
  refine ⟨fun m σ H => ∃ F ρ e S, SR G F ρ H S ∧ rE G F ρ e σ ∧ PostS G F ρ H (whileLoop z y m e S) D W, ⟨n, F, ρ, e, S, hS, hE, hP⟩, ?_⟩
  rintro m σ H ⟨F, ρ, e, S, hS, hE, hP⟩
  cases m with
  | zero => exact hP.elim
  | succ m =>
    have hP : PostS G F ρ H ((z e S).bindS e fun p S1 => match tru S1 p with
      | none => .bad
      | some false => .ok (.next e) S1
      | some true => (y e S1).bindB fun f S2 => match f with
        | .next ρ2 => whileLoop z y m ρ2 S2
        | .cont ρ2 => whileLoop z y m ρ2 S2
        | .brk ρ2 => .ok (.next ρ2) S2
        | .ret v => .ok (.ret v) S2
        | .exc e ρ2 => .ok (.exc e ρ2) S2) D W := hP
    refine ⟨F, ρ, e, S, hS, hE, ?_⟩
    unfold truR
    cases hz : z e S with
    | exc w S1 =>
      rw [hz] at hP
      exact fun F1 ρ1 H1 c d x1 s1 q => hP F1 ρ1 H1 σ c d x1 s1 (rE_ext x1 hE) q
    | bad => rw [hz] at hP; exact hP.elim
    | ok p S1 =>
      rw [hz] at hP
      simp only [R.bindS] at hP
      show Post G F ρ H (opt (tru S1 p) S1) relB _ _
      cases ht : tru S1 p with
      | none => rw [ht] at hP; exact hP.elim
      | some b =>
        rw [ht] at hP
        intro F1 ρ1 H1 b' x1 hS1 q1
        cases q1
        have hP1 := PostS.mono x1 hP
        cases b with
        | false => exact hP1 F1 ρ1 H1 σ .refl hS1 (rE_ext x1 hE)
        | true =>
          rw [if_pos rfl]
          refine ⟨fun σ' H' => ∃ F ρ e S, SR G F ρ H' S ∧ rE G F ρ e σ' ∧ PostS G F ρ H' (whileLoop z y m e S) D W, fun σ' H' q => ⟨m, Nat.lt_succ_self _, q⟩, F1, ρ1, e, S1, hS1, rE_ext x1 hE, ?_⟩
          dsimp only at hP1
          cases hy : y e S1 with
          | exc w S2 => rw [hy] at hP1; exact hP1.elim
          | bad => rw [hy] at hP1; exact hP1.elim
          | ok f S2 =>
            rw [hy] at hP1
            cases f with
            | next e2 => exact fun F2 ρ2 H2 σ2 x2 s2 w2 => ⟨F2, ρ2, e2, S2, s2, w2, PostS.mono x2 hP1⟩
            | cont e2 => exact fun F2 ρ2 H2 σ2 x2 s2 w2 => ⟨F2, ρ2, e2, S2, s2, w2, PostS.mono x2 hP1⟩
            | brk e2 => exact hP1
            | ret v => exact hP1
            | exc w e2 => exact hP1
end
end Ev
set_option Elab.async false
set_option linter.all false
set_option maxRecDepth 100000
set_option maxHeartbeats 1000000
/-! E10: what is walked; for; comprehensions. -/
namespace Ev
open PySem L2
open PyProof.Rows hiding St

/-- J walks the values xs, which stand in F -/
structure Wlk (G : Rt) (J : It) (xs : List PV) (F : Hp) (ρ : List Addr) : Prop where
  go : ∀ i H, i < xs.length → Same F H → J.go i H
  stop : ∀ H, Same F H → J.stop xs.length H
  yld : ∀ i H x H' F1 ρ1 S p, Same F F1 → ρ <+: ρ1 → SR G F1 ρ1 H S → xs[i]? = some p → J.yld i H x H' → ∃ F2, Ext F1 ρ1 H F2 ρ1 H' ∧ SR G F2 ρ1 H' S ∧ rv G F2 ρ1 p x
def PostI (G : Rt) (F : Hp) (ρ : List Addr) (H : Hp) (r : R (List PV)) (Q : It → Hp → Prop) (W : XK) : Prop := match r with
  | .ok xs S => ∀ F' ρ' H' J, Ext F ρ H F' ρ' H' → SR G F' ρ' H' S → Wlk G J xs F' ρ' → Q J H'
  | .exc e S => ∀ F' ρ' H' cls d, Ext F ρ H F' ρ' H' → SR G F' ρ' H' S → rx G F' ρ' e cls d → W cls d H'
  | .bad => False
def tI (G : Rt) (W : WX) (x : Env → Store → R (List PV)) : TI := fun σ H R => ∃ F ρ e S, SR G F ρ H S ∧ rE G F ρ e σ ∧ PostI G F ρ H (x e S) R (fun cls d H' => W cls d σ H')
section
variable {G : Rt} {X : Cx} {W : WX} {pins : List (Addr × Obj)} {σ : Slots} {H : Hp} {s : Shared} {F : Hp} {ρ : List Addr} {e : Env} {S : Store}
theorem PostI.mono {F' : Hp} {ρ' : List Addr} {H' : Hp} {r : R (List PV)} {Q : It → Hp → Prop} {W : XK} (x : Ext F ρ H F' ρ' H') (p : PostI G F ρ H r Q W) : PostI G F' ρ' H' r Q W := by
  cases r with
  | ok a S => exact fun F2 ρ2 H2 b y s q => p F2 ρ2 H2 b (x.trans y) s q
  | exc e S => exact fun F2 ρ2 H2 c d y s q => p F2 ρ2 H2 c d (x.trans y) s q
  | bad => exact p
theorem wlk_list {a : Addr} {xs : List PV} {vs : List V} (hF : F a = some (.lst vs)) (r : rvs G F ρ xs vs) : Wlk G (Itl G.K a) xs F ρ where
  go := fun i H hi hs => ⟨vs, vs[i]'(by rw [← rvs_len r]; exact hi), SqL.of (hs _ _ hF), by simp⟩
  stop := fun H hs => ⟨vs, SqL.of (hs _ _ hF), by rw [rvs_len r]; exact Nat.le_refl _⟩
  yld := fun i H x H' F1 ρ1 S p h1 l1 hS hp y => by
    obtain ⟨e, h⟩ := y
    subst e
    obtain ⟨v, hv, q⟩ := rvs_get r hp
    have e2 := h vs (SqL.of (hS.sub _ _ (h1 _ _ hF)))
    rw [hv] at e2
    cases e2
    exact ⟨F1, .refl, hS, rv_mono h1 l1 _ _ q⟩
theorem wlk_tup {a : Addr} {xs : List PV} {vs : List V} (hF : SqT G.K F a vs) (r : rvs G F ρ xs vs) : Wlk G (Itt G.K a) xs F ρ where
  go := fun i H hi hs => ⟨vs, vs[i]'(by rw [← rvs_len r]; exact hi), sqT_mono hs hF, by simp⟩
  stop := fun H hs => ⟨vs, sqT_mono hs hF, by rw [rvs_len r]; exact Nat.le_refl _⟩
  yld := fun i H x H' F1 ρ1 S p h1 l1 hS hp y => by
    obtain ⟨e, h⟩ := y
    subst e
    obtain ⟨v, hv, q⟩ := rvs_get r hp
    have e2 := h vs (sqT_mono hS.sub (sqT_mono h1 hF))
    rw [hv] at e2
    cases e2
    exact ⟨F1, .refl, hS, rv_mono h1 l1 _ _ q⟩
theorem signs_len : ∀ x : List Nat, (signs x).length = x.length
  | [] => rfl
  | c :: r => by show (signs r).length + 1 = r.length + 1; rw [signs_len r]
theorem signs_get : ∀ (x : List Nat) (i : Nat) (p : PV), (signs x)[i]? = some p → ∃ c, x[i]? = some c ∧ p = .str [c]
  | [], i, p, h => by simp [signs] at h
  | c :: r, 0, p, h => by simp [signs] at h; exact ⟨c, rfl, h.symm⟩
  | c :: r, i + 1, p, h => signs_get r i p (by simpa [signs] using h)
theorem wlk_str {x : List Nat} (hx : okS x = true) : Wlk G (Its (sT x)) (signs x) F ρ where
  go := fun i H hi hs => by rw [signs_len] at hi; exact hi
  stop := fun H hs => by rw [signs_len]; exact Nat.le_refl _
  yld := fun i H v H' F1 ρ1 S p h1 l1 hS hp y => by
    obtain ⟨e, c, hc, ev⟩ := y
    subst e
    obtain ⟨c', hc', ep⟩ := signs_get x i p hp
    have e1 : x[i]? = some c := by simpa [sT] using hc
    rw [hc'] at e1
    cases e1
    subst ep
    subst ev
    refine ⟨F1, .refl, hS, ?_⟩
    unfold rv
    exact ⟨rfl, okS_one hx (List.mem_of_getElem? hc')⟩
theorem upFrom_len : ∀ (n : Nat) (lo : Int), (upFrom lo n).length = n
  | 0, _ => rfl
  | n + 1, lo => by show (upFrom (lo + 1) n).length + 1 = _; rw [upFrom_len n]
theorem upFrom_get : ∀ (n : Nat) (lo : Int) (i : Nat) (p : PV), (upFrom lo n)[i]? = some p → p = .int (lo + i)
  | 0, _, i, p, h => by simp [upFrom] at h
  | n + 1, lo, 0, p, h => by simp [upFrom] at h; rw [← h]; simp
  | n + 1, lo, i + 1, p, h => by
    have := upFrom_get n (lo + 1) i p (by simpa [upFrom] using h)
    rw [this]
    congr 1
    omega
theorem wlk_up {lo : Int} {n : Nat} : Wlk G (Itr lo n) (upFrom lo n) F ρ where
  go := fun i H hi hs => by rw [upFrom_len] at hi; exact hi
  stop := fun H hs => by rw [upFrom_len]; exact Nat.le_refl _
  yld := fun i H v H' F1 ρ1 S p h1 l1 hS hp y => by
    obtain ⟨e, ev⟩ := y
    subst e
    subst ev
    rw [upFrom_get n lo i p hp]
    exact ⟨F1, .refl, hS, by unfold rv; rfl⟩
theorem stepFrom_len : ∀ (n : Nat) (lo c : Int), (stepFrom lo c n).length = n
  | 0, _, _ => rfl
  | n + 1, lo, c => by show (stepFrom (lo + c) c n).length + 1 = _; rw [stepFrom_len n]
theorem stepFrom_get : ∀ (n : Nat) (lo c : Int) (i : Nat) (p : PV), (stepFrom lo c n)[i]? = some p → p = .int (lo + (i : Nat) * c)
  | 0, _, _, i, p, h => by simp [stepFrom] at h
  | n + 1, lo, c, 0, p, h => by simp [stepFrom] at h; rw [← h]; simp
  | n + 1, lo, c, i + 1, p, h => by
    have := stepFrom_get n (lo + c) c i p (by simpa [stepFrom] using h)
    rw [this]
    congr 1
    rw [Int.natCast_add, Int.add_mul]
    simp
    omega
theorem wlk_step {lo c : Int} {n : Nat} : Wlk G (Itc lo c n) (stepFrom lo c n) F ρ where
  go := fun i H hi hs => by rw [stepFrom_len] at hi; exact hi
  stop := fun H hs => by rw [stepFrom_len]; exact Nat.le_refl _
  yld := fun i H v H' F1 ρ1 S p h1 l1 hS hp y => by
    obtain ⟨e, ev⟩ := y
    subst e
    subst ev
    rw [stepFrom_get n lo c i p hp]
    exact ⟨F1, .refl, hS, by unfold rv; rfl⟩
theorem si_exp {tg a : Expr} {x : Env → Store → R PV} (hK : X.K = G.K) (ha : PE X a (tE G W x)) : PI X tg a (tI G W (iterE x)) := by
  refine ⟨fun pins s σ H R I ⟨F, ρ, e, S, hS, hE, hP⟩ => ?_⟩
  unfold iterE at hP
  cases hx : x e S with
  | bad => rw [hx] at hP; exact hP.elim
  | exc z S1 =>
    rw [hx] at hP
    refine (pi_tup ha).run pins s σ H R I ⟨F, ρ, e, S, hS, hE, ?_⟩
    rw [hx]; exact hP
  | ok p S1 =>
    rw [hx] at hP
    simp only [bind_ok] at hP
    cases p with
    | lst xs =>
      refine (pi_list ha).run pins s σ H R I ⟨F, ρ, e, S, hS, hE, ?_⟩
      rw [hx]
      intro F1 ρ1 H1 v x1 hS1 q1
      unfold rv at q1
      obtain ⟨a, vs, rfl, z, r⟩ := q1
      refine ⟨a, rfl, ⟨vs, SqL.of (hS1.sub _ _ z)⟩, ?_⟩
      rw [hK]
      exact hP F1 ρ1 H1 _ x1 hS1 (wlk_list z r)
    | tup xs =>
      refine (pi_tup ha).run pins s σ H R I ⟨F, ρ, e, S, hS, hE, ?_⟩
      rw [hx]
      intro F1 ρ1 H1 v x1 hS1 q1
      unfold rv at q1
      obtain ⟨a, vs, rfl, z, r⟩ := q1
      refine ⟨a, rfl, ⟨vs, by rw [hK]; exact sqT_mono hS1.sub z⟩, ?_⟩
      rw [hK]
      exact hP F1 ρ1 H1 _ x1 hS1 (wlk_tup z r)
    | str c =>
      refine (pi_str ha).run pins s σ H R I ⟨F, ρ, e, S, hS, hE, ?_⟩
      rw [hx]
      intro F1 ρ1 H1 v x1 hS1 q1
      obtain ⟨e1, k1⟩ := rv_str q1
      exact ⟨sT c, e1, hP F1 ρ1 H1 _ x1 hS1 (wlk_str k1)⟩
    | cell i => exact hP.elim
    | _ => exact (show False from hP).elim
def rangeE (x : Env → Store → R (List PV)) : Env → Store → R (List PV) := fun e S => (x e S).bind fun ps S => opt (rangeD ps) S
theorem range_bounds {i : Int} (h : rangeOk i = true) : -(2 ^ 62) ≤ i ∧ i < 2 ^ 62 := by
  unfold rangeOk at h
  rw [Bool.and_eq_true_iff] at h
  exact ⟨of_decide_eq_true h.1, of_decide_eq_true h.2⟩
theorem rvs_cons {p : PV} {ps : List PV} {vs : List V} (h : rvs G F ρ (p :: ps) vs) : ∃ v r, vs = v :: r ∧ rv G F ρ p v ∧ rvs G F ρ ps r := by unfold rvs at h; exact h
theorem rvs_nil {vs : List V} (h : rvs G F ρ [] vs) : vs = [] := by unfold rvs at h; exact h
theorem si_range1 {tg a : Expr} {p pos : Pos} {x : Env → Store → R (List PV)} (hg : Gl X "range") (hm : X.mg "range" = none) (hn : nostar a = true) (ha : PA X [a] (tL G W x)) (h1 : ∀ e S ps S', x e S = .ok ps S' → ps.length = 1) :
    PI X tg (.Call (.Name "range" p) [a] [] pos) (tI G W (rangeE x)) := by
  refine ⟨fun pins s σ H R I ⟨F, ρ, e, S, hS, hE, hP⟩ => (pi_range1 hg hm ha (star_no hn)).run pins s σ H R I ⟨F, ρ, e, S, hS, hE, ?_⟩⟩
  unfold rangeE at hP
  cases hx : x e S with
  | bad => rw [hx] at hP; exact hP.elim
  | exc z S1 => rw [hx] at hP; exact hP
  | ok ps S1 =>
    rw [hx] at hP
    intro F1 ρ1 H1 vs x1 hS1 q1
    simp only [bind_ok] at hP
    match ps, h1 e S ps S1 hx, hP, q1 with
    | [p], _, hP, q1 =>
      cases p with
      | int n =>
        obtain ⟨v, r, rfl, q2, q3⟩ := rvs_cons q1
        have e1 := rv_int q2
        have e2 := rvs_nil q3
        subst e1; subst e2
        simp only [rangeD] at hP
        by_cases hr : rangeOk n = true
        · rw [if_pos hr] at hP
          exact ⟨n, rfl, (range_bounds hr).1, (range_bounds hr).2, hP F1 ρ1 H1 _ x1 hS1 wlk_up⟩
        · rw [if_neg hr] at hP; exact hP.elim
      | _ => exact (show False from hP).elim
theorem si_range2 {tg a b : Expr} {p pos : Pos} {x : Env → Store → R (List PV)} (hg : Gl X "range") (hm : X.mg "range" = none) (hn : nostar a = true) (hn2 : nostar b = true) (ha : PA X [a, b] (tL G W x)) (h1 : ∀ e S ps S', x e S = .ok ps S' → ps.length = 2) :
    PI X tg (.Call (.Name "range" p) [a, b] [] pos) (tI G W (rangeE x)) := by
  refine ⟨fun pins s σ H R I ⟨F, ρ, e, S, hS, hE, hP⟩ => (pi_range2 hg hm ha (by rw [star_no hn, star_no hn2]; rfl) (star_no hn2)).run pins s σ H R I ⟨F, ρ, e, S, hS, hE, ?_⟩⟩
  unfold rangeE at hP
  cases hx : x e S with
  | bad => rw [hx] at hP; exact hP.elim
  | exc z S1 => rw [hx] at hP; exact hP
  | ok ps S1 =>
    rw [hx] at hP
    intro F1 ρ1 H1 vs x1 hS1 q1
    simp only [bind_ok] at hP
    match ps, h1 e S ps S1 hx, hP, q1 with
    | [p, q], _, hP, q1 =>
      cases p with
      | int n =>
        cases q with
        | int m =>
          obtain ⟨v, r, rfl, q2, q3⟩ := rvs_cons q1
          obtain ⟨v', r', rfl, q4, q5⟩ := rvs_cons q3
          have e1 := rv_int q2
          have e2 := rvs_nil q5
          have e3 := rv_int q4
          subst e1; subst e2; subst e3
          simp only [rangeD] at hP
          by_cases hr : (rangeOk n && rangeOk m) = true
          · rw [if_pos hr] at hP
            have hr := Bool.and_eq_true_iff.mp hr
            exact ⟨n, m, rfl, ⟨(range_bounds hr.1).1, (range_bounds hr.1).2, (range_bounds hr.2).1, (range_bounds hr.2).2⟩, hP F1 ρ1 H1 _ x1 hS1 wlk_up⟩
          · rw [if_neg hr] at hP; exact hP.elim
        | _ => exact (show False from hP).elim
      | _ => exact (show False from hP).elim
theorem si_range3 {tg a b c : Expr} {p pos : Pos} {x : Env → Store → R (List PV)} (hg : Gl X "range") (hm : X.mg "range" = none) (hn : nostar a = true) (hn2 : nostar b = true) (hn3 : nostar c = true) (ha : PA X [a, b, c] (tL G W x)) (h1 : ∀ e S ps S', x e S = .ok ps S' → ps.length = 3) :
    PI X tg (.Call (.Name "range" p) [a, b, c] [] pos) (tI G W (rangeE x)) := by
  refine ⟨fun pins s σ H R I ⟨F, ρ, e, S, hS, hE, hP⟩ => (pi_range3 hg hm ha (star_no hn) (by rw [star_no hn2, star_no hn3]; rfl)).run pins s σ H R I ⟨F, ρ, e, S, hS, hE, ?_⟩⟩
  unfold rangeE at hP
  cases hx : x e S with
  | bad => rw [hx] at hP; exact hP.elim
  | exc z S1 => rw [hx] at hP; exact hP
  | ok ps S1 =>
    rw [hx] at hP
    intro F1 ρ1 H1 vs x1 hS1 q1
    simp only [bind_ok] at hP
    match ps, h1 e S ps S1 hx, hP, q1 with
    | [p, q, k], _, hP, q1 =>
      cases p with
      | int n =>
        cases q with
        | int m =>
          cases k with
          | int d =>
            obtain ⟨v, r, rfl, q2, q3⟩ := rvs_cons q1
            obtain ⟨v', r', rfl, q4, q5⟩ := rvs_cons q3
            obtain ⟨v2, r2, rfl, q6, q7⟩ := rvs_cons q5
            have e1 := rv_int q2
            have e2 := rvs_nil q7
            have e3 := rv_int q4
            have e4 := rv_int q6
            subst e1; subst e2; subst e3; subst e4
            simp only [rangeD] at hP
            by_cases hr : (rangeOk n && rangeOk m && decide (d = -1)) = true
            · rw [if_pos hr] at hP
              obtain ⟨r1, r2, r3⟩ := and3 hr
              have ed := of_decide_eq_true r3
              subst ed
              exact ⟨n, m, -1, _, rfl, RgC.neg (range_bounds r1).1 (range_bounds r1).2 (range_bounds r2).1 (range_bounds r2).2, hP F1 ρ1 H1 _ x1 hS1 wlk_step⟩
            · rw [if_neg hr] at hP; exact hP.elim
          | _ => exact (show False from hP).elim
        | _ => exact (show False from hP).elim
      | _ => exact (show False from hP).elim
/-! ### for -/
theorem ss_for {tg iter : Expr} {body : List Stmt} {pos : Pos} {x : Env → Store → R (List PV)} {t : PV → Env → Store → R Env} {y : Env → Store → R Fl} (hp : PassesOwn (model X.prog X.w) X.A X.env X.xe) (hc : X.calm = true)
    (hi : PI X tg iter (tI G W x)) (hg : PG X tg (tG G t)) (hb : PSs X body (tS G W y)) (hs : ∀ z, foldedSetIterable iter X.env z = pure z) :
    PS X (.For tg iter body [] pos) (tS G W fun e S => (x e S).bindS e fun xs S => forLoop t y xs e S) := by
  refine ⟨fun pins s σ H D I ⟨F, ρ, e, S, hS, hE, hP⟩ => (ps_for hp hc hi hg hb hs).run pins s σ H D I ⟨F, ρ, e, S, hS, hE, ?_⟩⟩
  dsimp only at hP
  cases hx : x e S with
  | bad => rw [hx] at hP; exact hP.elim
  | exc z S1 =>
    rw [hx] at hP
    exact fun F1 ρ1 H1 c d x1 s1 q => hP F1 ρ1 H1 σ c d x1 s1 (rE_ext x1 hE) q
  | ok xs S1 =>
    rw [hx] at hP
    intro F1 ρ1 H1 J x1 hS1 wk
    have hP1 := PostS.mono x1 hP
    simp only [R.bindS] at hP1
    refine ⟨fun i m σ H => m = xs.length - i ∧ i ≤ xs.length ∧ ∃ F ρ e S, SR G F ρ H S ∧ Same F1 F ∧ ρ1 <+: ρ ∧ rE G F ρ e σ ∧ PostS G F ρ H (forLoop t y (xs.drop i) e S) D W,
      ⟨xs.length, rfl, Nat.zero_le _, F1, ρ1, e, S1, hS1, Same.refl _, List.prefix_refl _, rE_ext x1 hE, by simpa using hP1⟩, ?_⟩
    rintro i m σ2 H2 ⟨rfl, hi', F2, ρ2, e2, S2, hS2, h2, l2, hE2, hP2⟩
    by_cases hlt : i < xs.length
    · refine .inr ⟨wk.go i H2 hlt (h2.trans hS2.sub), fun σ' H' => i + 1 ≤ xs.length ∧ ∃ F ρ e S, SR G F ρ H' S ∧ Same F1 F ∧ ρ1 <+: ρ ∧ rE G F ρ e σ' ∧ PostS G F ρ H' (forLoop t y (xs.drop (i + 1)) e S) D W,
        fun σ' H' q => ⟨xs.length - (i + 1), by omega, rfl, q.1, q.2⟩, fun v H3 hy => ?_⟩
      have hd : xs.drop i = xs[i] :: xs.drop (i + 1) := (List.getElem_cons_drop hlt).symm
      obtain ⟨F3, x3, hS3, q3⟩ := wk.yld i H2 v H3 F2 ρ2 S2 xs[i] h2 l2 hS2 (List.getElem?_eq_getElem hlt) hy
      rw [hd] at hP2
      have hP3 := PostS.mono x3 hP2
      unfold forLoop at hP3
      refine ⟨F3, ρ2, e2, S2, xs[i], hS3, rE_ext x3 hE2, q3, ?_⟩
      cases ht : t xs[i] e2 S2 with
      | bad => rw [ht] at hP3; exact hP3.elim
      | exc z S3 => rw [ht] at hP3; exact hP3.elim
      | ok e3 S3 =>
        rw [ht] at hP3
        intro F4 ρ4 H4 σ4 x4 hS4 hE4
        refine ⟨F4, ρ4, e3, S3, hS4, hE4, ?_⟩
        have hP4 := PostS.mono x4 hP3
        simp only [R.bindB] at hP4
        have hh : Same F1 F4 := h2.trans (x3.s.trans x4.s)
        have ll : ρ1 <+: ρ4 := l2.trans (x3.r.trans x4.r)
        cases hy : y e3 S3 with
        | bad => rw [hy] at hP4; exact hP4.elim
        | exc z S5 => rw [hy] at hP4; exact hP4.elim
        | ok f S5 =>
          rw [hy] at hP4
          cases f with
          | next e5 => exact fun F5 ρ5 H5 σ5 x5 s5 w5 => ⟨by omega, F5, ρ5, e5, S5, s5, hh.trans x5.s, ll.trans x5.r, w5, PostS.mono x5 hP4⟩
          | cont e5 => exact fun F5 ρ5 H5 σ5 x5 s5 w5 => ⟨by omega, F5, ρ5, e5, S5, s5, hh.trans x5.s, ll.trans x5.r, w5, PostS.mono x5 hP4⟩
          | brk e5 => exact hP4
          | ret v => exact hP4
          | exc w e5 => exact hP4
    · have ei : i = xs.length := by omega
      subst ei
      refine .inl ⟨wk.stop H2 (h2.trans hS2.sub), ?_⟩
      rw [List.drop_length] at hP2
      exact hP2 F2 ρ2 H2 σ2 .refl hS2 hE2
end
end Ev
set_option Elab.async false
set_option linter.all false
set_option maxRecDepth 100000
set_option maxHeartbeats 1000000
/-! E11: comprehensions. -/
namespace Ev
open PySem L2
open PyProof.Rows hiding St

theorem wipe_get (σ : Slots) (j : Nat) : ∀ vs : List Nat, (wipe σ vs)[j]? = if j ∈ vs then (σ[j]?).map fun _ => none else σ[j]?
  | [] => by simp [wipe]
  | v :: vs => by
    unfold wipe
    rw [List.getElem?_set, wipe_length, wipe_get σ j vs]
    by_cases h : v = j
    · subst h
      rw [if_pos rfl, if_pos List.mem_cons_self]
      by_cases hl : v < σ.length
      · rw [if_pos hl, List.getElem?_eq_getElem hl]; rfl
      · rw [if_neg hl, List.getElem?_eq_none (by omega)]; rfl
    · rw [if_neg h]
      by_cases h2 : j ∈ vs
      · rw [if_pos h2, if_pos (List.mem_cons_of_mem _ h2)]
      · rw [if_neg h2, if_neg (by simp only [List.mem_cons, not_or]; exact ⟨fun e => h e.symm, h2⟩)]
theorem wipe_wipe (σ : Slots) (vs : List Nat) : wipe (wipe σ vs) vs = wipe σ vs := by
  refine List.ext_getElem? fun j => ?_
  rw [wipe_get, wipe_get]
  by_cases h : j ∈ vs
  · rw [if_pos h, if_pos h]
    cases σ[j]? <;> rfl
  · rw [if_neg h, if_neg h]
theorem wipe_set (σ : Slots) {vs : List Nat} {i : Nat} (x : Option V) (h : i ∈ vs) : wipe (σ.set i x) vs = wipe σ vs := by
  refine List.ext_getElem? fun j => ?_
  rw [wipe_get, wipe_get]
  by_cases hj : j ∈ vs
  · rw [if_pos hj, if_pos hj]
    rw [List.getElem?_set]
    by_cases e : i = j
    · subst e
      rw [if_pos rfl]
      by_cases hl : i < σ.length
      · rw [if_pos hl, List.getElem?_eq_getElem hl]; rfl
      · rw [if_neg hl, List.getElem?_eq_none (by omega)]
    · rw [if_neg e]
  · rw [if_neg hj, if_neg hj]
    rw [List.getElem?_set_ne]
    intro e
    subst e
    exact hj h

/-- a target within a comprehension: the block's own names alone -/
def PostGw (G : Rt) (own : List Nat) (F : Hp) (ρ : List Addr) (σ : Slots) (H : Hp) (r : R Env) (Q : Slots → Hp → Prop) : Prop := match r with
  | .ok e S => ∀ F' ρ' H' σ', Ext F ρ H F' ρ' H' → SR G F' ρ' H' S → rE G F' ρ' e σ' → wipe σ' own = wipe σ own → Q σ' H'
  | _ => False
theorem PostGw.mono {G : Rt} {own : List Nat} {F F' : Hp} {ρ ρ' : List Addr} {σ σ1 : Slots} {H H' : Hp} {r : R Env} {Q : Slots → Hp → Prop} (x : Ext F ρ H F' ρ' H') (hw : wipe σ1 own = wipe σ own) (p : PostGw G own F ρ σ H r Q) : PostGw G own F' ρ' σ1 H' r Q := by
  cases r with
  | ok a S => exact fun F2 ρ2 H2 b y s q w => p F2 ρ2 H2 b (x.trans y) s q (w.trans hw)
  | exc e S => exact p
  | bad => exact p
def tGw (G : Rt) (own : List Nat) (x : PV → Env → Store → R Env) : TG := fun v σ H Q => ∃ F ρ e S p, SR G F ρ H S ∧ rE G F ρ e σ ∧ rv G F ρ p v ∧ PostGw G own F ρ σ H (x p e S) Q
def tGsw (G : Rt) (own : List Nat) (x : List PV → Env → Store → R Env) : TGs := fun vs σ H Q => ∃ F ρ e S ps, SR G F ρ H S ∧ rE G F ρ e σ ∧ rvs G F ρ ps vs ∧ PostGw G own F ρ σ H (x ps e S) Q
section
variable {G : Rt} {X : Cx} {W W2 : WX} {pins : List (Addr × Obj)} {σ : Slots} {H : Hp} {s : Shared} {F : Hp} {ρ : List Addr} {e : Env} {S : Store} {pos : Pos} {own : List Nat}
theorem sgw_name {i : Nat} {x : Str} (hN : X.N.Nodup) (hi : X.N[i]? = some x) (hx : Loc X.env.scope x) (hf : X.fn x = true ∨ X.env.scope.names.lookup x = some .local) (ho : i ∈ own) :
    PG X (.Name x pos) (tGw G own fun p e S => if i < e.length then .ok (e.set i (some p)) S else .bad) := by
  refine ⟨fun pins s σ H v u Q I r ⟨F, ρ, e, S, p, hS, hE, hv, hP⟩ => (pg_name hN hi hx hf).run pins s σ H v u Q I r ?_⟩
  dsimp only at hP
  by_cases h : i < e.length
  · rw [if_pos h] at hP
    exact hP F ρ H (σ.set i (some v)) .refl hS (rE_set hE hv) (wipe_set σ _ ho)
  · rw [if_neg h] at hP; exact hP.elim
theorem sgsw_nil : PGs X [] (tGsw G own fun vs e S => match vs with
    | [] => .ok e S
    | _ => .bad) := by
  refine ⟨fun pins s σ H vs us Q I r ⟨F, ρ, e, S, ps, hS, hE, hv, hP⟩ => pgs_nil.run pins s σ H vs us Q I r ?_⟩
  cases ps with
  | nil => unfold rvs at hv; exact ⟨hv, hP F ρ H σ .refl hS hE rfl⟩
  | cons a b => exact hP.elim
theorem sgsw_cons {a : Expr} {es : List Expr} {x : PV → Env → Store → R Env} {y : List PV → Env → Store → R Env} (hn : nostar a = true) (h1 : PG X a (tGw G own x)) (h2 : PGs X es (tGsw G own y)) :
    PGs X (a :: es) (tGsw G own fun vs e S => match vs with
      | v :: r => (x v e S).bind fun e S => y r e S
      | _ => .bad) := by
  have hs : (assignEach (a :: es) X.env).map (·.2) = assign a X.env :: (assignEach es X.env).map (·.2) := by
    cases a <;> first | rfl | exact absurd hn (by simp [nostar])
  refine ⟨fun pins s σ H vs us Q I r ⟨F, ρ, e, S, ps, hS, hE, hv, hP⟩ => (pgs_cons h1 h2 hs).run pins s σ H vs us Q I r ?_⟩
  cases ps with
  | nil => exact hP.elim
  | cons p ps =>
    unfold rvs at hv
    obtain ⟨v, vr, rfl, q1, q2⟩ := hv
    refine ⟨v, vr, rfl, F, ρ, e, S, p, hS, hE, q1, ?_⟩
    dsimp only at hP
    cases hx : x p e S with
    | ok e1 S1 =>
      rw [hx] at hP
      exact fun F1 ρ1 H1 σ1 x1 s1 w1 z => ⟨F1, ρ1, e1, S1, ps, s1, w1, rvs_ext x1 _ _ q2, PostGw.mono x1 z hP⟩
    | exc z S1 => rw [hx] at hP; exact hP.elim
    | bad => rw [hx] at hP; exact hP.elim
theorem sgw_tup {es : List Expr} {k n : Nat} {y : List PV → Env → Store → R Env} (hK : X.K = G.K) (hc : X.calm = true) (h : PGs X es (tGsw G own y)) (hn : (assignEach es X.env).length = n) (hst : (assignEach es X.env).findIdx? (·.1) = none)
    (hy : ∀ vs e S, (∃ e' S', y vs e S = .ok e' S') → vs.length = n) :
    PG X (.Tuple es k pos) (tGw G own fun p e S => match p with
      | .tup xs => y xs e S
      | _ => .bad) := by
  refine ⟨fun pins s σ H v u Q I r ⟨F, ρ, e, S, p, hS, hE, hv, hP⟩ => (pg_tup hc h hn hst).run pins s σ H v u Q I r ?_⟩
  cases p with
  | tup xs =>
    unfold rv at hv
    obtain ⟨a, vs, rfl, z, r⟩ := hv
    refine ⟨a, vs, rfl, by rw [hK]; exact sqT_mono hS.sub z, ?_, F, ρ, e, S, xs, hS, hE, r, hP⟩
    rw [← rvs_len r]
    dsimp only at hP
    cases hx : y xs e S with
    | ok e1 S1 => exact hy xs e S ⟨e1, S1, hx⟩
    | exc z S1 => rw [hx] at hP; exact hP.elim
    | bad => rw [hx] at hP; exact hP.elim
  | _ => exact (show False from hP).elim

/-! ### the new list, which nobody knows before it is whole -/
variable {F1 : Hp} {ρ1 : List Addr} {H1 : Hp} {D : Addr}
theorem SR.put (s : SR G F ρ H S) (hF : F D = none) (hD : D ∉ ρ) (o : HO) : SR G F ρ (upd H D o) S :=
  ⟨fun b u e => by rw [upd_ne (ne_of_none e hF)]; exact s.sub b u e, s.len, fun i c a h1 h2 => by
    have : a ≠ D := fun z => hD (z ▸ List.mem_of_getElem? h2)
    rw [upd_ne this]; exact s.at_ i c a h1 h2, s.live, s.nd⟩
theorem SR.fix (s : SR G F ρ H S) (hF : F D = none) (hD : D ∉ ρ) {o : HO} (ho : H D = some o) : SR G (upd F D o) ρ H S := by
  have hs : Same F (upd F D o) := fun b u e => by rw [upd_ne (ne_of_none e hF)]; exact e
  refine ⟨fun b u e => ?_, s.len, fun i c a h1 h2 => rc_mono hs (List.prefix_refl _) (s.at_ i c a h1 h2), fun i c a h1 h2 h3 => ?_, s.nd⟩
  · by_cases hb : b = D
    · subst hb; rw [upd_same] at e; cases e; exact ho
    · rw [upd_ne hb] at e; exact s.sub b u e
  · have : a ≠ D := fun z => hD (z ▸ List.mem_of_getElem? h2)
    rw [upd_ne this]; exact s.live i c a h1 h2 h3
theorem Ext.put (x : Ext F1 ρ1 H1 F ρ H) (hn : H1 D = none) (o : HO) : Ext F1 ρ1 H1 F ρ (upd H D o) :=
  ⟨x.s, x.r, fun a u e1 e2 e3 => by
    have : a ≠ D := ne_of_none e1 hn
    rw [upd_ne this]; exact x.k a u e1 e2 e3⟩
theorem Ext.fix (x : Ext F1 ρ1 H1 F ρ H) (hn : H1 D = none) (hF : F D = none) (o : HO) : Ext F1 ρ1 H1 (upd F D o) ρ H :=
  ⟨fun b u e => by
    have := x.s b u e
    rw [upd_ne (ne_of_none this hF)]; exact this, x.r, fun a u e1 e2 e3 => by
    have : a ≠ D := ne_of_none e1 hn
    rw [upd_ne this]; exact x.k a u e1 e2 e3⟩
theorem same_fix (hF : F D = none) (o : HO) : Same F (upd F D o) := fun b u e => by rw [upd_ne (ne_of_none e hF)]; exact e
/-- what is left of the store -/
theorem after_ok {n : Nat} {p q : PV} {S' : Store} {v : V} (h : after n p S = .ok q S') (hS : SR G F ρ H S) (hv : rv G F ρ p v) : q = p ∧ ∃ ρ', ρ.take n <+: ρ' ∧ ρ' <+: ρ ∧ SR G F ρ' H S' ∧ rv G F ρ' p v := by
  unfold after at h
  by_cases h1 : (S.length == n) = true
  · rw [if_pos h1] at h
    cases h
    exact ⟨rfl, ρ, List.take_prefix _ _, List.prefix_refl _, hS, hv⟩
  · rw [if_neg h1] at h
    have fin : ∀ {p q : PV}, rv G F ρ p v → low n p = true → (if (S.take n).all (lowC n) then R.ok p (S.take n) else .bad) = .ok q S' → q = p ∧ ∃ ρ', ρ.take n <+: ρ' ∧ ρ' <+: ρ ∧ SR G F ρ' H S' ∧ rv G F ρ' p v := fun {p q} hv hl h => by
      by_cases h2 : (S.take n).all (lowC n) = true
      · rw [if_pos h2] at h
        cases h
        exact ⟨rfl, ρ.take n, List.prefix_refl _, List.take_prefix _ _, hS.cut n h2, rv_low _ _ hl hv⟩
      · rw [if_neg h2] at h; cases h
    have gen : ∀ {p q : PV}, rv G F ρ p v → (if low n p && (S.take n).all (lowC n) then R.ok p (S.take n) else .bad) = .ok q S' → q = p ∧ ∃ ρ', ρ.take n <+: ρ' ∧ ρ' <+: ρ ∧ SR G F ρ' H S' ∧ rv G F ρ' p v := fun {p q} hv h => by
      by_cases h2 : (low n p && (S.take n).all (lowC n)) = true
      · have h3 := Bool.and_eq_true_iff.mp h2
        rw [if_pos h2] at h
        exact fin hv h3.1 (by rw [if_pos h3.2]; exact h)
      · rw [if_neg h2] at h; cases h
    cases p with
    | cell j =>
      dsimp only at h
      by_cases h2 : n ≤ j
      · rw [if_pos h2] at h
        cases h
        exact ⟨rfl, ρ, List.take_prefix _ _, List.prefix_refl _, hS, hv⟩
      · rw [if_neg h2] at h
        exact fin hv (by unfold low; simp; omega) h
    | _ => exact gen hv h
theorem after_noexc {n : Nat} {p z : PV} {S' : Store} (h : after n p S = .exc z S') : False := by
  unfold after at h
  split at h
  · cases h
  · split at h
    · split at h
      · cases h
      · split at h <;> cases h
    · split at h <;> cases h
theorem Ext.back (x : Ext F1 ρ1 H1 F ρ H) {ρ' : List Addr} (h1 : ρ1 <+: ρ') (h2 : ρ' <+: ρ) : Ext F1 ρ1 H1 F ρ' H :=
  ⟨x.s, h1, fun a u e1 e2 e3 => let ⟨k1, k2, k3⟩ := x.k a u e1 e2 e3; ⟨k1, k2, fun h => k3 (h2.subset h)⟩⟩
theorem take_pre {α : Type} {a b : List α} {n : Nat} (h : a <+: b) (hn : n = a.length) : b.take n = a := by
  obtain ⟨t, rfl⟩ := h
  subst hn
  simp
theorem rvs_snoc {xs : List PV} {vs : List V} {p : PV} {v : V} (h : rvs G F ρ xs vs) (q : rv G F ρ p v) : rvs G F ρ (xs ++ [p]) (vs ++ [v]) :=
  rvs_app h (by unfold rvs; exact ⟨v, [], rfl, q, by unfold rvs; rfl⟩)

/-- a comprehension's value -/
def compE (own : List Nat) (xi : Env → Store → R (List PV)) (t : PV → Env → Store → R Env) (c x : Env → Store → R PV) : Env → Store → R PV :=
  fun ρ S => (xi ρ S).bind fun xs S => (compLoop t c x (wipeE own ρ) xs S).bind fun ys S => sizeOk ys S
/-- the state within a comprehension's loop: acc is what was put into the list so far; rest is what follows -/
structure CI (G : Rt) (F1 : Hp) (ρ1 : List Addr) (H1 : Hp) (D : Addr) (acc : List PV) (S : Store) (H : Hp) (F : Hp) (ρ : List Addr) (av : List V) : Prop where
  x : Ext F1 ρ1 H1 F ρ H
  s : SR G F ρ H S
  d : H D = some (.lst av)
  f : F D = none
  n : D ∉ ρ
  a : rvs G F ρ acc av
theorem CI.go {acc : List PV} {av : List V} (c : CI G F1 ρ1 H1 D acc S H F ρ av) {F' : Hp} {ρ' : List Addr} {H' : Hp} {S' : Store} (x : Ext F ρ H F' ρ' H') (s : SR G F' ρ' H' S') : CI G F1 ρ1 H1 D acc S' H' F' ρ' av :=
  let ⟨k1, k2, k3⟩ := x.k D _ c.d c.f c.n
  ⟨c.x.trans x, s, k1, k2, k3, rvs_ext x _ _ c.a⟩
theorem CI.add {acc : List PV} {av : List V} {F2 : Hp} {ρ2 : List Addr} {H2 : Hp} {S2 : Store} {F3 : Hp} {ρ3 : List Addr} {H3 : Hp} {S3 S4 : Store} {q p : PV} {y : V} (hn : H1 D = none) (c : CI G F1 ρ1 H1 D acc S2 H2 F2 ρ2 av) (x : Ext F2 ρ2 H2 F3 ρ3 H3) (s : SR G F3 ρ3 H3 S3) (r : rv G F3 ρ3 q y) (ha : after S2.length q S3 = .ok p S4) :
    H3 D = some (.lst av) ∧ p = q ∧ ∃ ρ4, CI G F1 ρ1 H1 D (acc ++ [q]) S4 (upd H3 D (.lst (av ++ [y]))) F3 ρ4 (av ++ [y]) := by
  obtain ⟨k1, k2, k3⟩ := x.k D _ c.d c.f c.n
  obtain ⟨rfl, ρ4, l1, l2, s4, r4⟩ := after_ok ha s r
  rw [take_pre x.r (c.s.len).symm] at l1
  have x4 := x.back l1 l2
  have n4 : D ∉ ρ4 := fun h => k3 (l2.subset h)
  exact ⟨k1, rfl, ρ4, (c.x.trans x4).put hn _, s4.put k2 n4 _, upd_same .., k2, n4, rvs_snoc (rvs_ext x4 _ _ c.a) r4⟩
theorem CI.start (hS : SR G F1 ρ1 H1 S) (hn : H1 D = none) : CI G F1 ρ1 H1 D [] S (upd H1 D (.lst [])) F1 ρ1 [] := by
  have hF : F1 D = none := hS.sub.free hn
  refine ⟨(Ext.refl).put hn _, (hS.lay hn _), upd_same .., hF, fun h => ?_, by unfold rvs; rfl⟩
  obtain ⟨i, hi⟩ := List.getElem?_of_mem h
  exact hS.ne hi hn rfl
/-- the list is whole -/
theorem CI.done {acc : List PV} {av : List V} (hn : H1 D = none) (c : CI G F1 ρ1 H1 D acc S H F ρ av) {Q : VK} {W : XK} (hP : Post G F1 ρ1 H1 (sizeOk acc S) (rv G) Q W) : Q (.ref D) H := by
  unfold sizeOk at hP
  by_cases h : acc.length ≤ lim
  · rw [if_pos h] at hP
    refine hP (upd F D (.lst av)) ρ H (.ref D) (c.x.fix hn c.f _) (c.s.fix c.f c.n c.d) ?_
    unfold rv
    exact ⟨D, av, rfl, upd_same .., rvs_mono (same_fix c.f _) (List.prefix_refl _) _ _ c.a⟩
  · rw [if_neg h] at hP; exact hP.elim
theorem sizeOk_le {ys : List PV} {Q : VK} {W : XK} (hP : Post G F ρ H (sizeOk ys S) (rv G) Q W) : ys.length ≤ lim := by
  unfold sizeOk at hP
  by_cases h : ys.length ≤ lim
  · exact h
  · rw [if_neg h] at hP; exact hP.elim
theorem lc_rd {xi : Env → Store → R (List PV)} {t : PV → Env → Store → R Env} {c x : Env → Store → R PV} {Q : VK} (h : tE G W (compE own xi t c x) σ H Q) : tLc (tI G W xi) (tGw G own t) (tT G W2 c) (tE G W2 x) own σ H Q := by
  obtain ⟨F, ρ, e, S, hS, hE, hP⟩ := h
  refine ⟨F, ρ, e, S, hS, hE, ?_⟩
  unfold compE at hP
  cases hx : xi e S with
  | bad => rw [hx] at hP; exact hP.elim
  | exc z S1 => rw [hx] at hP; exact hP
  | ok xs S1 =>
    rw [hx] at hP
    intro F1 ρ1 H1 J x1 hS1 wk D hD
    have hP1 := Post.mono x1 hP
    simp only [bind_ok] at hP1
    have hE1 := rE_ext x1 hE
    refine ⟨fun i m H => m = xs.length - i ∧ i ≤ xs.length ∧ ∃ F ρ S acc av, CI G F1 ρ1 H1 D acc S H F ρ av ∧ Post G F1 ρ1 H1 ((compLoop t c x (wipeE own e) (xs.drop i) S).bind fun ys S => sizeOk (acc ++ ys) S) (rv G) Q (fun cls d H' => W cls d σ H'),
      ⟨xs.length, rfl, Nat.zero_le _, F1, ρ1, S1, [], [], .start hS1 hD, by simpa using hP1⟩, ?_⟩
    rintro i m H2 ⟨rfl, hi', F2, ρ2, S2, acc, av, c2, hP2⟩
    by_cases hlt : i < xs.length
    · refine .inr ⟨wk.go i H2 hlt (c2.x.s.trans c2.s.sub), fun H' => i + 1 ≤ xs.length ∧ ∃ F ρ S acc av, CI G F1 ρ1 H1 D acc S H' F ρ av ∧ Post G F1 ρ1 H1 ((compLoop t c x (wipeE own e) (xs.drop (i + 1)) S).bind fun ys S => sizeOk (acc ++ ys) S) (rv G) Q (fun cls d H' => W cls d σ H'),
        fun H' q => ⟨xs.length - (i + 1), by omega, rfl, q.1, q.2⟩, fun v H3 hy => ?_⟩
      have hd : xs.drop i = xs[i] :: xs.drop (i + 1) := (List.getElem_cons_drop hlt).symm
      obtain ⟨F3, x3, hS3, q3⟩ := wk.yld i H2 v H3 F2 ρ2 S2 xs[i] c2.x.s c2.x.r c2.s (List.getElem?_eq_getElem hlt) hy
      have c3 := c2.go x3 hS3
      rw [hd] at hP2
      unfold compLoop at hP2
      refine ⟨F3, ρ2, wipeE own e, S2, xs[i], hS3, rE_wipe (rE_ext c3.x hE1) own, q3, ?_⟩
      cases ht : t xs[i] (wipeE own e) S2 with
      | bad => rw [ht] at hP2; exact hP2.elim
      | exc z S3 => rw [ht] at hP2; exact hP2.elim
      | ok e3 S3 =>
        rw [ht] at hP2
        intro F4 ρ4 H4 σ4 x4 hS4 hE4 hw4
        refine ⟨hw4.trans (wipe_wipe σ own), F4, ρ4, e3, S3, hS4, hE4, ?_⟩
        have c4 := c3.go x4 hS4
        simp only [R.bindB] at hP2
        cases hc : c e3 S3 with
        | bad => rw [hc] at hP2; exact hP2.elim
        | exc z S4 => rw [hc] at hP2; exact hP2.elim
        | ok p S4 =>
          rw [hc] at hP2
          simp only [] at hP2
          unfold truR
          rw [hc]
          simp only [bind_ok]
          cases hb : tru S4 p with
          | none => rw [hb] at hP2; exact hP2.elim
          | some b =>
            rw [hb] at hP2
            intro F5 ρ5 H5 b' x5 hS5 eb
            cases eb
            have c5 := c4.go x5 hS5
            cases b with
            | false => exact ⟨by omega, F5, ρ5, S4, acc, av, c5, hP2⟩
            | true =>
              rw [if_pos rfl]
              refine ⟨F5, ρ5, e3, S4, hS5, rE_ext x5 hE4, ?_⟩
              simp only [] at hP2
              cases hq : x e3 S4 with
              | bad => rw [hq] at hP2; exact hP2.elim
              | exc z S5 => rw [hq] at hP2; exact hP2.elim
              | ok q S5 =>
                rw [hq] at hP2
                intro F6 ρ6 H6 y x6 hS6 q6
                simp only [] at hP2
                cases ha : after S4.length q S5 with
                | bad => rw [ha] at hP2; exact hP2.elim
                | exc z S6 => exact (after_noexc ha).elim
                | ok p6 S6 =>
                  rw [ha] at hP2
                  simp only [] at hP2
                  obtain ⟨k1, rfl, ρ7, c7⟩ := c5.add hD x6 hS6 q6 ha
                  cases hr : compLoop t c x (wipeE own e) (xs.drop (i + 1)) S6 with
                  | bad => rw [hr] at hP2; exact hP2.elim
                  | exc z S7 => rw [hr] at hP2; exact hP2.elim
                  | ok qs S7 =>
                    rw [hr] at hP2
                    simp only [bind_ok] at hP2
                    refine ⟨av, k1, ?_, by omega, F6, ρ7, S6, acc ++ [p6], av ++ [y], c7, ?_⟩
                    · have h1 := sizeOk_le hP2
                      have h2 := rvs_len c5.a
                      have h3 : av.length + 1 ≤ lim := by rw [← h2]; simp at h1; omega
                      exact Nat.lt_of_lt_of_le (Nat.lt_of_succ_le h3) lim_line
                    · rw [hr]
                      simp only [bind_ok, List.append_assoc, List.singleton_append]
                      exact hP2
    · have ei : i = xs.length := by omega
      subst ei
      refine .inl ⟨wk.stop H2 (c2.x.s.trans c2.s.sub), ?_⟩
      rw [List.drop_length] at hP2
      unfold compLoop at hP2
      simp only [bind_ok, List.append_nil] at hP2
      exact c2.done hD hP2
/-! ### the forms -/
theorem spts_nil : PTs X [] (tT G W fun _ S => .ok (.bl true) S) := by
  refine ⟨fun pins s σ H Q I ⟨F, ρ, e, S, hS, hE, hP⟩ => pts_nil.run pins s σ H Q I ?_⟩
  exact hP F ρ H true .refl hS rfl
theorem se_lc {elt tg iter : Expr} {ifs : List Expr} {scope : Scope} {ow : List (Str × Nat)} {xi : Env → Store → R (List PV)} {t : PV → Env → Store → R Env} {c x : Env → Store → R PV} (hc : X.calm = true) (hN : X.N.Nodup) (hi : PI X tg iter (tI G W xi)) (ok : BlkOk X.N X.env.scope scope ow) (ho : ow.map (·.2) = own)
    (hg : ∀ (s : Shared) (H : Hp) (C : Addr) (cl : List (Str × Addr)) (fp : List Addr), PG (X.blk s H scope (compEnvC scope cl C X.env) fp) tg (tGw G own t)) (ht : ∀ (s : Shared) (H : Hp) (C : Addr) (cl : List (Str × Addr)) (fp : List Addr), PTs (X.blk s H scope (compEnvC scope cl C X.env) fp) ifs (tT G W2 c))
    (he : ∀ (s : Shared) (H : Hp) (C : Addr) (cl : List (Str × Addr)) (fp : List Addr), PE (X.blk s H scope (compEnvC scope cl C X.env) fp) elt (tE G W2 x)) (hs : ∀ x, foldedSetIterable iter X.env x = pure x) :
    PE X (.ListComp elt [⟨tg, iter, ifs, 0⟩] scope pos) (tE G W (compE own xi t c x)) := by
  subst ho
  exact ⟨fun pins s σ H Q I h => (pe_lc hc hN hi ok hg ht he hs).run pins s σ H Q I (lc_rd h)⟩
def asgE (x : Env → Store → R PV) (t : PV → Env → Store → R Env) : Env → Store → R Fl := fun e S => (x e S).bindS e fun p S => (t p e S).bindB fun e S => .ok (.next e) S
theorem asg_rd {x : Env → Store → R PV} {t : PV → Env → Store → R Env} {D : Ends} (h : tS G W (asgE x t) D σ H) : tAsg (tE G W x) (tG G t) D σ H := by
  obtain ⟨F, ρ, e, S, hS, hE, hP⟩ := h
  refine ⟨F, ρ, e, S, hS, hE, ?_⟩
  unfold asgE at hP
  cases hx : x e S with
  | bad => rw [hx] at hP; exact hP.elim
  | exc z S1 =>
    rw [hx] at hP
    exact fun F1 ρ1 H1 c d x1 s1 q => hP F1 ρ1 H1 σ c d x1 s1 (rE_ext x1 hE) q
  | ok p S1 =>
    rw [hx] at hP
    intro F1 ρ1 H1 v x1 s1 q1
    refine ⟨F1, ρ1, e, S1, p, s1, rE_ext x1 hE, q1, ?_⟩
    have hP1 := PostS.mono x1 hP
    simp only [R.bindS] at hP1
    cases ht : t p e S1 with
    | bad => rw [ht] at hP1; exact hP1.elim
    | exc z S2 => rw [ht] at hP1; exact hP1.elim
    | ok e2 S2 => rw [ht] at hP1; exact hP1
def nameT (i : Nat) : PV → Env → Store → R Env := fun p e S => if i < e.length then .ok (e.set i (some p)) S else .bad
theorem name_rd {i : Nat} {v : V} {Q : Slots → Hp → Prop} (h : tG G (nameT i) v σ H Q) : gName i v σ H Q := by
  obtain ⟨F, ρ, e, S, p, hS, hE, hv, hP⟩ := h
  unfold nameT at hP
  by_cases h : i < e.length
  · rw [if_pos h] at hP
    exact hP F ρ H (σ.set i (some v)) .refl hS (rE_set hE hv)
  · rw [if_neg h] at hP; exact hP.elim
theorem tE_mono {x : Env → Store → R PV} {Q Q' : VK} (h : tE G W x σ H Q) (k : ∀ v H, Q v H → Q' v H) : tE G W x σ H Q' := by
  obtain ⟨F, ρ, e, S, hS, hE, hP⟩ := h
  refine ⟨F, ρ, e, S, hS, hE, ?_⟩
  cases hx : x e S with
  | bad => rw [hx] at hP; exact hP.elim
  | exc z S1 => rw [hx] at hP; exact hP
  | ok p S1 => rw [hx] at hP; exact fun F1 ρ1 H1 v a b c => k _ _ (hP F1 ρ1 H1 v a b c)
theorem ss_setLc {i : Nat} {y : Str} {py : Pos} {elt tg iter : Expr} {ifs : List Expr} {scope : Scope} {ow : List (Str × Nat)} {spos : Pos} {xi : Env → Store → R (List PV)} {t : PV → Env → Store → R Env} {c x : Env → Store → R PV} (hc : X.calm = true) (hN : X.N.Nodup) (hy : X.N[i]? = some y) (hyl : X.env.scope.names.lookup y = some .local)
    (hsw : swapsWith (.ListComp elt [⟨tg, iter, ifs, 0⟩] scope pos) (some (.Name y py)) spos.line X.env = pure true) (hi : PI X tg iter (tI G W xi)) (ok : BlkOk X.N X.env.scope scope ow) (ho : ow.map (·.2) = own)
    (hg : ∀ (s : Shared) (H : Hp) (C : Addr) (cl : List (Str × Addr)) (fp : List Addr), PG (X.blk s H scope (compEnvC scope cl C X.env) fp) tg (tGw G own t)) (ht : ∀ (s : Shared) (H : Hp) (C : Addr) (cl : List (Str × Addr)) (fp : List Addr), PTs (X.blk s H scope (compEnvC scope cl C X.env) fp) ifs (tT G W2 c))
    (he : ∀ (s : Shared) (H : Hp) (C : Addr) (cl : List (Str × Addr)) (fp : List Addr), PE (X.blk s H scope (compEnvC scope cl C X.env) fp) elt (tE G W2 x)) (hs : ∀ x, foldedSetIterable iter X.env x = pure x) :
    PS X (.Assign [.Name y py] (.ListComp elt [⟨tg, iter, ifs, 0⟩] scope pos) spos) (tS G W (asgE (compE own xi t c x) (nameT i))) := by
  subst ho
  exact ⟨fun pins s σ H D I h => (ps_setLc hc hN hy hyl hsw hi ok hg ht he hs).run pins s σ H D I (lc_rd (tE_mono (asg_rd h) fun v H q => name_rd q))⟩
end
end Ev
set_option Elab.async false
set_option linter.all false
set_option maxRecDepth 100000
set_option maxHeartbeats 1000000
/-! E11d: dict comprehensions whose keys are texts. -/
namespace Ev
open PySem L2
open PyProof.Rows hiding St

theorem sT_inj {x y : List Nat} (h : sT x = sT y) : x = y := by injection h with h; injection h
theorem any_kvs (k : List Nat) : ∀ (ks : List (List Nat)) (vs : List V), ks.length = vs.length → ((kvs ks vs).any fun kv => decide (kv.1 = (Sum.inr (sT k) : Key))) = ks.contains k
  | [], [], _ => rfl
  | [], _ :: _, h => by cases h
  | _ :: _, [], h => by cases h
  | x :: r, v :: q, h => by
    have ih := any_kvs k r q (by simpa using h)
    show (decide ((Sum.inr (sT x) : Key) = Sum.inr (sT k)) || (kvs r q).any fun kv => decide (kv.1 = (Sum.inr (sT k) : Key))) = _
    rw [ih, List.contains_cons]
    congr 1
    by_cases e : k = x
    · subst e; simp
    · have e1 : (k == x) = false := beq_eq_false_iff_ne.mpr e
      rw [e1, decide_eq_false]
      intro z
      injection z with z
      exact e (sT_inj z).symm
theorem map_kvs (k : List Nat) (z : V) : ∀ (ks : List (List Nat)) (vs : List V), ks.length = vs.length → (kvs ks vs).map (fun kv => if kv.1 = (Sum.inr (sT k) : Key) then (kv.1, z) else kv) = kvs ks ((ks.zip vs).map fun kv => if kv.1 == k then z else kv.2)
  | [], [], _ => rfl
  | [], _ :: _, h => by cases h
  | _ :: _, [], h => by cases h
  | x :: r, v :: q, h => by
    have ih := map_kvs k z r q (by simpa using h)
    show (if (Sum.inr (sT x) : Key) = Sum.inr (sT k) then ((Sum.inr (sT x) : Key), z) else (Sum.inr (sT x), v)) :: (kvs r q).map _ = ((Sum.inr (sT x) : Key), if (x == k) = true then z else v) :: kvs r ((r.zip q).map fun kv => if kv.1 == k then z else kv.2)
    rw [ih]
    congr 1
    by_cases e : x = k
    · subst e; simp
    · have e1 : (x == k) = false := beq_eq_false_iff_ne.mpr e
      rw [e1, if_neg]
      · simp
      · intro w
        injection w with w
        exact e (sT_inj w)
theorem put_kvs {k : List Nat} {z : V} {ks : List (List Nat)} {vs : List V} (h : ks.length = vs.length) : putK (kvs ks vs) (Sum.inr (sT k)) z = kvs (putD k z ks vs).1 (putD k z ks vs).2 := by
  unfold putK putD
  rw [any_kvs k ks vs h]
  by_cases hc : ks.contains k = true
  · rw [if_pos hc, if_pos hc, map_kvs k z ks vs h]
  · rw [if_neg hc, if_neg hc]
    show _ = ((ks ++ [k]).map fun k => (Sum.inr (sT k) : Key)).zip (vs ++ [z])
    rw [List.map_append, List.zip_append (by rw [List.length_map]; exact h)]
    rfl
theorem put_fst {α β : Type} {k : List Nat} {z : α} {y : β} {ks : List (List Nat)} {vs : List α} {ws : List β} : (putD k z ks vs).1 = (putD k y ks ws).1 := by
  unfold putD
  by_cases hc : ks.contains k = true
  · rw [if_pos hc, if_pos hc]
  · rw [if_neg hc, if_neg hc]
theorem put_len {α : Type} {k : List Nat} {z : α} {ks : List (List Nat)} {vs : List α} (h : ks.length = vs.length) : (putD k z ks vs).1.length = (putD k z ks vs).2.length := by
  unfold putD
  by_cases hc : ks.contains k = true
  · rw [if_pos hc]; simp [h]
  · rw [if_neg hc]; simp [h]
theorem put_nd {α : Type} {k : List Nat} {z : α} {ks : List (List Nat)} {vs : List α} (h : ks.Nodup) : (putD k z ks vs).1.Nodup := by
  unfold putD
  by_cases hc : ks.contains k = true
  · rw [if_pos hc]; exact h
  · rw [if_neg hc]
    have : k ∉ ks := by simpa using hc
    rw [List.nodup_append]
    exact ⟨h, by simp, fun a ha b hb e => this (by simp at hb; rw [← hb, ← e]; exact ha)⟩
theorem put_ok {α : Type} {k : List Nat} {z : α} {ks : List (List Nat)} {vs : List α} (h : ∀ k ∈ ks, okS k = true) (hk : okS k = true) : ∀ j ∈ (putD k z ks vs).1, okS j = true := by
  unfold putD
  by_cases hc : ks.contains k = true
  · rw [if_pos hc]; exact h
  · rw [if_neg hc]
    intro j hj
    rcases List.mem_append.mp hj with hj | hj
    · exact h j hj
    · have : j = k := by simpa using hj
      rw [this]; exact hk
section
variable {G : Rt} {X : Cx} {W W2 : WX} {σ : Slots} {F : Hp} {ρ : List Addr} {H : Hp} {S : Store} {F1 : Hp} {ρ1 : List Addr} {H1 : Hp} {D : Addr} {own : List Nat}
theorem rvs_zipput {k : List Nat} {q : PV} {z : V} (hz : rv G F ρ q z) : ∀ {ks : List (List Nat)} {ps : List PV} {vs : List V}, ks.length = vs.length → rvs G F ρ ps vs → rvs G F ρ ((ks.zip ps).map fun kv => if kv.1 == k then q else kv.2) ((ks.zip vs).map fun kv => if kv.1 == k then z else kv.2)
  | [], ps, vs, h, r => by show rvs G F ρ [] []; unfold rvs; rfl
  | x :: xs, [], vs, h, r => by
    have := rvs_nil r
    subst this
    cases h
  | x :: xs, p :: ps, vs, h, r => by
    obtain ⟨v, q', rfl, a, b⟩ := rvs_cons r
    have ih := rvs_zipput (k := k) hz (ks := xs) (by simpa using h) b
    show rvs G F ρ ((if (x == k) = true then q else p) :: (xs.zip ps).map _) ((if (x == k) = true then z else v) :: (xs.zip q').map _)
    unfold rvs
    refine ⟨_, _, rfl, ?_, ih⟩
    by_cases e : (x == k) = true
    · rw [if_pos e, if_pos e]; exact hz
    · rw [if_neg e, if_neg e]; exact a
theorem rvs_put {k : List Nat} {q : PV} {z : V} {ks : List (List Nat)} {ps : List PV} {vs : List V} (hz : rv G F ρ q z) (h : ks.length = vs.length) (r : rvs G F ρ ps vs) : rvs G F ρ (putD k q ks ps).2 (putD k z ks vs).2 := by
  unfold putD
  by_cases hc : ks.contains k = true
  · rw [if_pos hc, if_pos hc]; exact rvs_zipput hz h r
  · rw [if_neg hc, if_neg hc]
    exact rvs_app r (by unfold rvs; exact ⟨z, _, rfl, hz, by unfold rvs; rfl⟩)
def dcompE (own : List Nat) (xi : Env → Store → R (List PV)) (t : PV → Env → Store → R Env) (key val : Env → Store → R PV) : Env → Store → R PV :=
  fun ρ S => (xi ρ S).bind fun xs S => dcompLoop t key val (wipeE own ρ) xs [] [] S
/-- the state within the loop: the dict so far -/
structure CD (G : Rt) (F1 : Hp) (ρ1 : List Addr) (H1 : Hp) (D : Addr) (ks : List (List Nat)) (acc : List PV) (S : Store) (H : Hp) (F : Hp) (ρ : List Addr) (av : List V) : Prop where
  x : Ext F1 ρ1 H1 F ρ H
  s : SR G F ρ H S
  d : H D = some (.dK (kvs ks av))
  f : F D = none
  n : D ∉ ρ
  l : ks.length = av.length
  nd : ks.Nodup
  ok : ∀ k ∈ ks, okS k = true
  a : rvs G F ρ acc av
theorem CD.go {ks : List (List Nat)} {acc : List PV} {av : List V} (c : CD G F1 ρ1 H1 D ks acc S H F ρ av) {F' : Hp} {ρ' : List Addr} {H' : Hp} {S' : Store} (x : Ext F ρ H F' ρ' H') (s : SR G F' ρ' H' S') : CD G F1 ρ1 H1 D ks acc S' H' F' ρ' av :=
  let ⟨k1, k2, k3⟩ := x.k D _ c.d c.f c.n
  ⟨c.x.trans x, s, k1, k2, k3, c.l, c.nd, c.ok, rvs_ext x _ _ c.a⟩
theorem CD.start (hS : SR G F1 ρ1 H1 S) (hn : H1 D = none) : CD G F1 ρ1 H1 D [] [] S (upd H1 D (.dK [])) F1 ρ1 [] := by
  have hF : F1 D = none := hS.sub.free hn
  refine ⟨(Ext.refl).put hn _, (hS.lay hn _), upd_same .., hF, fun h => ?_, rfl, List.nodup_nil, (fun k h => by cases h), by unfold rvs; rfl⟩
  obtain ⟨i, hi⟩ := List.getElem?_of_mem h
  exact hS.ne hi hn rfl
theorem CD.put {ks : List (List Nat)} {acc : List PV} {av : List V} (hn : H1 D = none) (c : CD G F1 ρ1 H1 D ks acc S H F ρ av) {k : List Nat} {q : PV} {z : V} (hk : okS k = true) (hz : rv G F ρ q z) :
    CD G F1 ρ1 H1 D (putD k q ks acc).1 (putD k q ks acc).2 S (upd H D (.dK (putK (kvs ks av) (Sum.inr (sT k)) z))) F ρ (putD k z ks av).2 := by
  refine ⟨c.x.put hn _, c.s.put c.f c.n _, ?_, c.f, c.n, ?_, put_nd c.nd, put_ok c.ok hk, rvs_put hz c.l c.a⟩
  · rw [upd_same, put_kvs c.l, put_fst (z := q) (y := z) (vs := acc) (ws := av)]
  · rw [put_fst (z := q) (y := z) (vs := acc) (ws := av)]; exact put_len c.l
theorem CD.done {ks : List (List Nat)} {acc : List PV} {av : List V} (hn : H1 D = none) (c : CD G F1 ρ1 H1 D ks acc S H F ρ av) {Q : VK} {W : XK} (hP : Post G F1 ρ1 H1 (R.ok (PV.dct ks acc) S) (rv G) Q W) : Q (.ref D) H := by
  refine hP (upd F D (.dK (kvs ks av))) ρ H (.ref D) (c.x.fix hn c.f _) (c.s.fix c.f c.n c.d) ?_
  unfold rv
  exact ⟨D, av, rfl, .inl (upd_same ..), c.l, c.nd, c.ok, rvs_mono (same_fix c.f _) (List.prefix_refl _) _ _ c.a⟩
theorem kvs_len {ks : List (List Nat)} {vs : List V} (h : ks.length = vs.length) : (kvs ks vs).length = ks.length := by
  unfold kvs
  rw [List.length_zip, List.length_map, h, Nat.min_self]
theorem dc_rd {xi : Env → Store → R (List PV)} {t : PV → Env → Store → R Env} {key val : Env → Store → R PV} {Q : VK} (h : tE G W (dcompE own xi t key val) σ H Q) : tDc (tI G W xi) (tGw G own t) (tT G W2 fun _ S => .ok (.bl true) S) (tE G W2 key) (tE G W2 val) own σ H Q := by
  obtain ⟨F, ρ, e, S, hS, hE, hP⟩ := h
  refine ⟨F, ρ, e, S, hS, hE, ?_⟩
  unfold dcompE at hP
  cases hx : xi e S with
  | bad => rw [hx] at hP; exact hP.elim
  | exc z S1 => rw [hx] at hP; exact hP
  | ok xs S1 =>
    rw [hx] at hP
    intro F1 ρ1 H1 J x1 hS1 wk D hD
    have hP1 := Post.mono x1 hP
    simp only [bind_ok] at hP1
    have hE1 := rE_ext x1 hE
    refine ⟨fun i m H => m = xs.length - i ∧ i ≤ xs.length ∧ ∃ F ρ S ks acc av, CD G F1 ρ1 H1 D ks acc S H F ρ av ∧ Post G F1 ρ1 H1 (dcompLoop t key val (wipeE own e) (xs.drop i) ks acc S) (rv G) Q (fun cls d H' => W cls d σ H'),
      ⟨xs.length, rfl, Nat.zero_le _, F1, ρ1, S1, [], [], [], .start hS1 hD, by simpa using hP1⟩, ?_⟩
    rintro i m H2 ⟨rfl, hi', F2, ρ2, S2, ks, acc, av, c2, hP2⟩
    by_cases hlt : i < xs.length
    · refine .inr ⟨wk.go i H2 hlt (c2.x.s.trans c2.s.sub), fun H' => i + 1 ≤ xs.length ∧ ∃ F ρ S ks acc av, CD G F1 ρ1 H1 D ks acc S H' F ρ av ∧ Post G F1 ρ1 H1 (dcompLoop t key val (wipeE own e) (xs.drop (i + 1)) ks acc S) (rv G) Q (fun cls d H' => W cls d σ H'),
        fun H' q => ⟨xs.length - (i + 1), by omega, rfl, q.1, q.2⟩, fun v H3 hy => ?_⟩
      have hd : xs.drop i = xs[i] :: xs.drop (i + 1) := (List.getElem_cons_drop hlt).symm
      obtain ⟨F3, x3, hS3, q3⟩ := wk.yld i H2 v H3 F2 ρ2 S2 xs[i] c2.x.s c2.x.r c2.s (List.getElem?_eq_getElem hlt) hy
      have c3 := c2.go x3 hS3
      rw [hd] at hP2
      unfold dcompLoop at hP2
      refine ⟨F3, ρ2, wipeE own e, S2, xs[i], hS3, rE_wipe (rE_ext c3.x hE1) own, q3, ?_⟩
      cases ht : t xs[i] (wipeE own e) S2 with
      | bad => rw [ht] at hP2; exact hP2.elim
      | exc z S3 => rw [ht] at hP2; exact hP2.elim
      | ok e3 S3 =>
        rw [ht] at hP2
        intro F4 ρ4 H4 σ4 x4 hS4 hE4 hw4
        refine ⟨hw4.trans (wipe_wipe σ own), F4, ρ4, e3, S3, hS4, hE4, ?_⟩
        have c4 := c3.go x4 hS4
        simp only [R.bindB] at hP2
        intro F5 ρ5 H5 b' x5 hS5 eb
        cases eb
        have c5 := c4.go x5 hS5
        rw [if_pos rfl]
        refine ⟨F5, ρ5, e3, S3, hS5, rE_ext x5 hE4, ?_⟩
        cases hq : key e3 S3 with
        | bad => rw [hq] at hP2; exact hP2.elim
        | exc z S5 => rw [hq] at hP2; exact hP2.elim
        | ok q S5 =>
          rw [hq] at hP2
          intro F6 ρ6 H6 y x6 hS6 q6
          have c6 := c5.go x6 hS6
          refine ⟨F6, ρ6, e3, S5, hS6, rE_ext (x5.trans x6) hE4, ?_⟩
          simp only [] at hP2
          cases hr : val e3 S5 with
          | bad => rw [hr] at hP2; exact hP2.elim
          | exc z S6 => rw [hr] at hP2; exact hP2.elim
          | ok w S6 =>
            rw [hr] at hP2
            intro F7 ρ7 H7 u x7 hS7 q7
            have c7 := c6.go x7 hS7
            simp only [] at hP2
            cases q with
            | str k =>
              obtain ⟨e6, k6⟩ := rv_str q6
              subst e6
              dsimp only at hP2
              by_cases hl : ks.length < lim
              · rw [if_pos hl] at hP2
                refine ⟨kvs ks av, Sum.inr (sT k), rfl, c7.d, by rw [kvs_len c7.l]; exact Nat.lt_of_lt_of_le hl lim_line, by omega, F7, ρ7, S6, _, _, _, c7.put hD k6 q7, hP2⟩
              · rw [if_neg hl] at hP2; exact hP2.elim
            | _ => exact (show False from hP2).elim
    · have ei : i = xs.length := by omega
      subst ei
      refine .inl ⟨wk.stop H2 (c2.x.s.trans c2.s.sub), ?_⟩
      rw [List.drop_length] at hP2
      unfold dcompLoop at hP2
      exact c2.done hD hP2
/-- {k: v for target in iter} -/
theorem se_dc {kx vx tg iter : Expr} {scope : Scope} {ow : List (Str × Nat)} {pos : Pos} {xi : Env → Store → R (List PV)} {t : PV → Env → Store → R Env} {key val : Env → Store → R PV} (hc : X.calm = true) (hN : X.N.Nodup) (hi : PI X tg iter (tI G W xi)) (ok : BlkOk X.N X.env.scope scope ow) (ho : ow.map (·.2) = own)
    (hg : ∀ (s : Shared) (H : Hp) (C : Addr) (cl : List (Str × Addr)) (fp : List Addr), PG (X.blk s H scope (compEnvC scope cl C X.env) fp) tg (tGw G own t))
    (hk : ∀ (s : Shared) (H : Hp) (C : Addr) (cl : List (Str × Addr)) (fp : List Addr), PE (X.blk s H scope (compEnvC scope cl C X.env) fp) kx (tE G W2 key))
    (he : ∀ (s : Shared) (H : Hp) (C : Addr) (cl : List (Str × Addr)) (fp : List Addr), PE (X.blk s H scope (compEnvC scope cl C X.env) fp) vx (tE G W2 val)) (hs : ∀ x, foldedSetIterable iter X.env x = pure x) :
    PE X (.DictComp kx vx [⟨tg, iter, [], 0⟩] scope pos) (tE G W (dcompE own xi t key val)) := by
  subst ho
  exact ⟨fun pins s σ H Q I h => (pe_dc hc hN hi ok hg (fun s H C cl fp => spts_nil) hk he hs).run pins s σ H Q I (dc_rd h)⟩
end
end Ev
set_option Elab.async false
set_option linter.all false
set_option maxRecDepth 100000
set_option maxHeartbeats 1000000
/-! E11e: comprehensions of two levels. -/
namespace Ev
open PySem L2
open PyProof.Rows hiding St

section
variable {G : Rt} {X : Cx} {W W2 : WX} {σ : Slots} {F : Hp} {ρ : List Addr} {H : Hp} {S : Store} {F1 : Hp} {ρ1 : List Addr} {H1 : Hp} {D : Addr} {own own2 : List Nat}
def innE (own2 : List Nat) (xi2 : Env → Store → R (List PV)) (t2 : PV → Env → Store → R Env) (c2 x : Env → Store → R PV) : Env → Store → R (List PV) :=
  fun ρ S => (xi2 ρ S).bind fun ys S => compLoop t2 c2 x (wipeE own2 ρ) ys S
def comp2E (own own2 : List Nat) (xi : Env → Store → R (List PV)) (t : PV → Env → Store → R Env) (c : Env → Store → R PV) (xi2 : Env → Store → R (List PV)) (t2 : PV → Env → Store → R Env) (c2 x : Env → Store → R PV) : Env → Store → R PV :=
  fun ρ S => (xi ρ S).bind fun xs S => (compLoop2 t c (innE own2 xi2 t2 c2 x) (wipeE own ρ) xs S).bind fun ys S => sizeOk ys S
theorem CI.add2 {acc : List PV} {av : List V} {F2 : Hp} {ρ2 : List Addr} {H2 : Hp} {S2 : Store} {F3 : Hp} {ρ3 : List Addr} {H3 : Hp} {S3 S4 : Store} {q p : PV} {y : V} (hn : H1 D = none) (c : CI G F1 ρ1 H1 D acc S2 H2 F2 ρ2 av) (x : Ext F2 ρ2 H2 F3 ρ3 H3) (s : SR G F3 ρ3 H3 S3) (r : rv G F3 ρ3 q y) (ha : after S2.length q S3 = .ok p S4) :
    H3 D = some (.lst av) ∧ p = q ∧ ∃ ρ4, ρ2 <+: ρ4 ∧ CI G F1 ρ1 H1 D (acc ++ [q]) S4 (upd H3 D (.lst (av ++ [y]))) F3 ρ4 (av ++ [y]) := by
  obtain ⟨k1, k2, k3⟩ := x.k D _ c.d c.f c.n
  obtain ⟨rfl, ρ4, l1, l2, s4, r4⟩ := after_ok ha s r
  rw [take_pre x.r (c.s.len).symm] at l1
  have x4 := x.back l1 l2
  have n4 : D ∉ ρ4 := fun h => k3 (l2.subset h)
  exact ⟨k1, rfl, ρ4, l1, (c.x.trans x4).put hn _, s4.put k2 n4 _, upd_same .., k2, n4, rvs_snoc (rvs_ext x4 _ _ c.a) r4⟩
theorem lc2_rd {xi xi2 : Env → Store → R (List PV)} {t t2 : PV → Env → Store → R Env} {c c2 x : Env → Store → R PV} {Q : VK} (h : tE G W (comp2E own own2 xi t c xi2 t2 c2 x) σ H Q) : tLc2 (tI G W xi) (tGw G own t) (tT G W2 c) (tI G W2 xi2) (tGw G own2 t2) (tT G W2 c2) (tE G W2 x) own own2 σ H Q := by
  obtain ⟨F, ρ, e, S, hS, hE, hP⟩ := h
  refine ⟨F, ρ, e, S, hS, hE, ?_⟩
  unfold comp2E at hP
  cases hx : xi e S with
  | bad => rw [hx] at hP; exact hP.elim
  | exc z S1 => rw [hx] at hP; exact hP
  | ok xs S1 =>
    rw [hx] at hP
    intro F1 ρ1 H1 J x1 hS1 wk D hD
    have hP1 := Post.mono x1 hP
    simp only [bind_ok] at hP1
    have hE1 := rE_ext x1 hE
    refine ⟨fun i m H => m = xs.length - i ∧ i ≤ xs.length ∧ ∃ F ρ S acc av, CI G F1 ρ1 H1 D acc S H F ρ av ∧ Post G F1 ρ1 H1 ((compLoop2 t c (innE own2 xi2 t2 c2 x) (wipeE own e) (xs.drop i) S).bind fun ys S => sizeOk (acc ++ ys) S) (rv G) Q (fun cls d H' => W cls d σ H'),
      ⟨xs.length, rfl, Nat.zero_le _, F1, ρ1, S1, [], [], .start hS1 hD, by simpa using hP1⟩, ?_⟩
    rintro i m H2 ⟨rfl, hi', F2, ρ2, S2, acc, av, k2, hP2⟩
    by_cases hlt : i < xs.length
    · refine .inr ⟨wk.go i H2 hlt (k2.x.s.trans k2.s.sub), fun H' => i + 1 ≤ xs.length ∧ ∃ F ρ S acc av, CI G F1 ρ1 H1 D acc S H' F ρ av ∧ Post G F1 ρ1 H1 ((compLoop2 t c (innE own2 xi2 t2 c2 x) (wipeE own e) (xs.drop (i + 1)) S).bind fun ys S => sizeOk (acc ++ ys) S) (rv G) Q (fun cls d H' => W cls d σ H'),
        fun H' q => ⟨xs.length - (i + 1), by omega, rfl, q.1, q.2⟩, fun v H3 hy => ?_⟩
      have hd : xs.drop i = xs[i] :: xs.drop (i + 1) := (List.getElem_cons_drop hlt).symm
      obtain ⟨F3, x3, hS3, q3⟩ := wk.yld i H2 v H3 F2 ρ2 S2 xs[i] k2.x.s k2.x.r k2.s (List.getElem?_eq_getElem hlt) hy
      have k3 := k2.go x3 hS3
      rw [hd] at hP2
      unfold compLoop2 at hP2
      refine ⟨F3, ρ2, wipeE own e, S2, xs[i], hS3, rE_wipe (rE_ext k3.x hE1) own, q3, ?_⟩
      cases ht : t xs[i] (wipeE own e) S2 with
      | bad => rw [ht] at hP2; exact hP2.elim
      | exc z S3 => rw [ht] at hP2; exact hP2.elim
      | ok e3 S3 =>
        rw [ht] at hP2
        intro F4 ρ4 H4 σ4 x4 hS4 hE4 hw4
        refine ⟨hw4.trans (wipe_wipe σ own), F4, ρ4, e3, S3, hS4, hE4, ?_⟩
        have k4 := k3.go x4 hS4
        simp only [R.bindB] at hP2
        cases hc : c e3 S3 with
        | bad => rw [hc] at hP2; exact hP2.elim
        | exc z S4 => rw [hc] at hP2; exact hP2.elim
        | ok p S4 =>
          rw [hc] at hP2
          simp only [] at hP2
          unfold truR
          rw [hc]
          simp only [bind_ok]
          cases hb : tru S4 p with
          | none => rw [hb] at hP2; exact hP2.elim
          | some b =>
            rw [hb] at hP2
            intro F5 ρ5 H5 b' x5 hS5 eb
            cases eb
            have k5 := k4.go x5 hS5
            have hE5 := rE_ext x5 hE4
            cases b with
            | false => exact ⟨by omega, F5, ρ5, S4, acc, av, k5, hP2⟩
            | true =>
              rw [if_pos rfl]
              refine ⟨F5, ρ5, e3, S4, hS5, hE5, ?_⟩
              simp only [] at hP2
              unfold innE at hP2
              cases hq : xi2 e3 S4 with
              | bad => rw [hq] at hP2; exact hP2.elim
              | exc z S5 => rw [hq] at hP2; exact hP2.elim
              | ok ys S5 =>
                rw [hq] at hP2
                simp only [bind_ok] at hP2
                intro F6 ρ6 H6 J6 x6 hS6 wk6
                have k6 := k5.go x6 hS6
                have hE6 := rE_ext x6 hE5
                refine ⟨fun j k H => k = ys.length - j ∧ j ≤ ys.length ∧ ∃ F ρ S acc2 av2, CI G F1 ρ1 H1 D acc2 S H F ρ av2 ∧ (Same F6 F ∧ ρ6 <+: ρ) ∧ Post G F1 ρ1 H1 ((compLoop t2 c2 x (wipeE own2 e3) (ys.drop j) S).bindB fun q S3 => ((compLoop2 t c (innE own2 xi2 t2 c2 x) (wipeE own e) (xs.drop (i + 1)) S3).bindB fun qs S4 => R.ok (q ++ qs) S4).bind fun zs S => sizeOk (acc2 ++ zs) S) (rv G) Q (fun cls d H' => W cls d σ H'),
                  ⟨ys.length, rfl, Nat.zero_le _, F6, ρ6, S5, acc, av, k6, ⟨Same.refl _, List.prefix_refl _⟩, ?_⟩, ?_⟩
                · rw [List.drop_zero]
                  unfold innE
                  cases hz : compLoop t2 c2 x (wipeE own2 e3) ys S5 with
                  | bad => rw [hz] at hP2; exact hP2.elim
                  | exc z S6 => rw [hz] at hP2; exact hP2.elim
                  | ok q S6 => rw [hz] at hP2; exact hP2
                rintro j k H7 ⟨rfl, hj', F7, ρ7, S7, acc7, av7, k7, x67, hP7⟩
                by_cases hjt : j < ys.length
                · refine .inr ⟨wk6.go j H7 hjt (x67.1.trans k7.s.sub), fun H' => j + 1 ≤ ys.length ∧ ∃ F ρ S acc2 av2, CI G F1 ρ1 H1 D acc2 S H' F ρ av2 ∧ (Same F6 F ∧ ρ6 <+: ρ) ∧ Post G F1 ρ1 H1 ((compLoop t2 c2 x (wipeE own2 e3) (ys.drop (j + 1)) S).bindB fun q S3 => ((compLoop2 t c (innE own2 xi2 t2 c2 x) (wipeE own e) (xs.drop (i + 1)) S3).bindB fun qs S4 => R.ok (q ++ qs) S4).bind fun zs S => sizeOk (acc2 ++ zs) S) (rv G) Q (fun cls d H' => W cls d σ H'),
                    fun H' q => ⟨ys.length - (j + 1), by omega, rfl, q.1, q.2⟩, fun v8 H8 hy8 => ?_⟩
                  have hd8 : ys.drop j = ys[j] :: ys.drop (j + 1) := (List.getElem_cons_drop hjt).symm
                  obtain ⟨F8, x8, hS8, q8⟩ := wk6.yld j H7 v8 H8 F7 ρ7 S7 ys[j] x67.1 x67.2 k7.s (List.getElem?_eq_getElem hjt) hy8
                  have k8 := k7.go x8 hS8
                  have x68 : Same F6 F8 ∧ ρ6 <+: ρ7 := ⟨x67.1.trans x8.s, x67.2.trans x8.r⟩
                  have hE8 := rE_mono x68.1 x68.2 hE6
                  rw [hd8] at hP7
                  unfold compLoop at hP7
                  refine ⟨F8, ρ7, wipeE own2 e3, S7, ys[j], hS8, rE_wipe hE8 own2, q8, ?_⟩
                  cases ht8 : t2 ys[j] (wipeE own2 e3) S7 with
                  | bad => rw [ht8] at hP7; exact hP7.elim
                  | exc z S9 => rw [ht8] at hP7; exact hP7.elim
                  | ok e9 S9 =>
                    rw [ht8] at hP7
                    intro F9 ρ9 H9 σ9 x9 hS9 hE9 hw9
                    refine ⟨hw9.trans (wipe_wipe σ4 own2), F9, ρ9, e9, S9, hS9, hE9, ?_⟩
                    have k9 := k8.go x9 hS9
                    simp only [R.bindB] at hP7
                    cases hc9 : c2 e9 S9 with
                    | bad => rw [hc9] at hP7; exact hP7.elim
                    | exc z S10 => rw [hc9] at hP7; exact hP7.elim
                    | ok p9 S10 =>
                      rw [hc9] at hP7
                      simp only [] at hP7
                      unfold truR
                      rw [hc9]
                      simp only [bind_ok]
                      cases hb9 : tru S10 p9 with
                      | none => rw [hb9] at hP7; exact hP7.elim
                      | some b9 =>
                        rw [hb9] at hP7
                        intro F10 ρ10 H10 b10 x10 hS10 eb9
                        cases eb9
                        have k10 := k9.go x10 hS10
                        have x610 : Same F6 F10 ∧ ρ6 <+: ρ10 := ⟨(x68.1.trans x9.s).trans x10.s, (x68.2.trans x9.r).trans x10.r⟩
                        cases b9 with
                        | false => exact ⟨by omega, F10, ρ10, S10, acc7, av7, k10, x610, hP7⟩
                        | true =>
                          rw [if_pos rfl]
                          refine ⟨F10, ρ10, e9, S10, hS10, rE_ext x10 hE9, ?_⟩
                          simp only [] at hP7
                          cases hq9 : x e9 S10 with
                          | bad => rw [hq9] at hP7; exact hP7.elim
                          | exc z S11 => rw [hq9] at hP7; exact hP7.elim
                          | ok q9 S11 =>
                            rw [hq9] at hP7
                            intro F11 ρ11 H11 y x11 hS11 q11
                            simp only [] at hP7
                            cases ha9 : after S10.length q9 S11 with
                            | bad => rw [ha9] at hP7; exact hP7.elim
                            | exc z S12 => exact (after_noexc ha9).elim
                            | ok p12 S12 =>
                              rw [ha9] at hP7
                              simp only [] at hP7
                              obtain ⟨d1, rfl, ρ12, l12, k12⟩ := k10.add2 hD x11 hS11 q11 ha9
                              have x612 : Same F6 F11 ∧ ρ6 <+: ρ12 := ⟨x610.1.trans x11.s, x610.2.trans l12⟩
                              cases hr9 : compLoop t2 c2 x (wipeE own2 e3) (ys.drop (j + 1)) S12 with
                              | bad => rw [hr9] at hP7; exact hP7.elim
                              | exc z S13 => rw [hr9] at hP7; exact hP7.elim
                              | ok qs S13 =>
                                rw [hr9] at hP7
                                simp only [] at hP7
                                refine ⟨av7, d1, ?_, by omega, F11, ρ12, S12, acc7 ++ [p12], av7 ++ [y], k12, x612, ?_⟩
                                · cases hz9 : compLoop2 t c (innE own2 xi2 t2 c2 x) (wipeE own e) (xs.drop (i + 1)) S13 with
                                  | bad => rw [hz9] at hP7; exact hP7.elim
                                  | exc z S14 => rw [hz9] at hP7; exact hP7.elim
                                  | ok qq S14 =>
                                    rw [hz9] at hP7
                                    have h1 := sizeOk_le hP7
                                    have h2 := rvs_len k10.a
                                    have h3 : av7.length + 1 ≤ lim := by rw [← h2]; simp at h1; omega
                                    exact Nat.lt_of_lt_of_le (Nat.lt_of_succ_le h3) lim_line
                                · rw [hr9]
                                  cases hz9 : compLoop2 t c (innE own2 xi2 t2 c2 x) (wipeE own e) (xs.drop (i + 1)) S13 with
                                  | bad => rw [hz9] at hP7; exact hP7.elim
                                  | exc z S14 => rw [hz9] at hP7; exact hP7.elim
                                  | ok qq S14 =>
                                    rw [hz9] at hP7
                                    simp only [R.bindB]
                                    rw [hz9]
                                    simp only [bind_ok, List.append_assoc, List.singleton_append, List.cons_append] at hP7 ⊢
                                    exact hP7
                · have ej : j = ys.length := by omega
                  subst ej
                  refine .inl ⟨wk6.stop H7 (x67.1.trans k7.s.sub), ?_⟩
                  rw [List.drop_length] at hP7
                  unfold compLoop at hP7
                  refine ⟨by omega, F7, ρ7, S7, acc7, av7, k7, ?_⟩
                  simp only [R.bindB] at hP7
                  cases hz9 : compLoop2 t c (innE own2 xi2 t2 c2 x) (wipeE own e) (xs.drop (i + 1)) S7 with
                  | bad => rw [hz9] at hP7; exact hP7.elim
                  | exc z S14 => rw [hz9] at hP7; exact hP7.elim
                  | ok qq S14 =>
                    rw [hz9] at hP7
                    simp only [bind_ok, List.nil_append] at hP7 ⊢
                    exact hP7
    · have ei : i = xs.length := by omega
      subst ei
      refine .inl ⟨wk.stop H2 (k2.x.s.trans k2.s.sub), ?_⟩
      rw [List.drop_length] at hP2
      unfold compLoop2 at hP2
      simp only [bind_ok, List.append_nil] at hP2
      exact k2.done hD hP2
variable {pos : Pos}
theorem se_lc2 {elt tg iter tg1 iter1 : Expr} {ifs ifs1 : List Expr} {scope : Scope} {ow : List (Str × Nat)} {xi xi2 : Env → Store → R (List PV)} {t t2 : PV → Env → Store → R Env} {c c2 x : Env → Store → R PV} (hc : X.calm = true) (hN : X.N.Nodup) (hi : PI X tg iter (tI G W xi)) (ok : BlkOk X.N X.env.scope scope ow) (ho : ow.map (·.2) = own) (hv : ∀ i ∈ own2, i ∈ own)
    (hg : ∀ (s : Shared) (H : Hp) (C : Addr) (cl : List (Str × Addr)) (fp : List Addr), PG (X.blk s H scope (compEnvC scope cl C X.env) fp) tg (tGw G own t)) (ht : ∀ (s : Shared) (H : Hp) (C : Addr) (cl : List (Str × Addr)) (fp : List Addr), PTs (X.blk s H scope (compEnvC scope cl C X.env) fp) ifs (tT G W2 c))
    (hi1 : ∀ (s : Shared) (H : Hp) (C : Addr) (cl : List (Str × Addr)) (fp : List Addr), PI (X.blk s H scope (compEnvC scope cl C X.env) fp) tg1 iter1 (tI G W2 xi2))
    (hg1 : ∀ (s : Shared) (H : Hp) (C : Addr) (cl : List (Str × Addr)) (fp : List Addr), PG (X.blk s H scope (compEnvC scope cl C X.env) fp) tg1 (tGw G own2 t2)) (ht1 : ∀ (s : Shared) (H : Hp) (C : Addr) (cl : List (Str × Addr)) (fp : List Addr), PTs (X.blk s H scope (compEnvC scope cl C X.env) fp) ifs1 (tT G W2 c2))
    (he : ∀ (s : Shared) (H : Hp) (C : Addr) (cl : List (Str × Addr)) (fp : List Addr), PE (X.blk s H scope (compEnvC scope cl C X.env) fp) elt (tE G W2 x)) (hs : ∀ x, foldedSetIterable iter X.env x = pure x) (hs1 : ∀ env x, foldedSetIterable iter1 env x = pure x) :
    PE X (.ListComp elt [⟨tg, iter, ifs, 0⟩, ⟨tg1, iter1, ifs1, 0⟩] scope pos) (tE G W (comp2E own own2 xi t c xi2 t2 c2 x)) := by
  subst ho
  exact ⟨fun pins s σ H Q I h => (pe_lc2 (vs1 := own2) hc hN hi ok hv hg ht hi1 hg1 ht1 he hs hs1).run pins s σ H Q I (lc2_rd h)⟩
theorem ss_setLc2 {i : Nat} {y : Str} {py : Pos} {spos : Pos} {elt tg iter tg1 iter1 : Expr} {ifs ifs1 : List Expr} {scope : Scope} {ow : List (Str × Nat)} {xi xi2 : Env → Store → R (List PV)} {t t2 : PV → Env → Store → R Env} {c c2 x : Env → Store → R PV} (hc : X.calm = true) (hN : X.N.Nodup) (hy : X.N[i]? = some y) (hyl : X.env.scope.names.lookup y = some .local)
    (hsw : swapsWith (.ListComp elt [⟨tg, iter, ifs, 0⟩, ⟨tg1, iter1, ifs1, 0⟩] scope pos) (some (.Name y py)) spos.line X.env = pure true) (hi : PI X tg iter (tI G W xi)) (ok : BlkOk X.N X.env.scope scope ow) (ho : ow.map (·.2) = own) (hv : ∀ i ∈ own2, i ∈ own)
    (hg : ∀ (s : Shared) (H : Hp) (C : Addr) (cl : List (Str × Addr)) (fp : List Addr), PG (X.blk s H scope (compEnvC scope cl C X.env) fp) tg (tGw G own t)) (ht : ∀ (s : Shared) (H : Hp) (C : Addr) (cl : List (Str × Addr)) (fp : List Addr), PTs (X.blk s H scope (compEnvC scope cl C X.env) fp) ifs (tT G W2 c))
    (hi1 : ∀ (s : Shared) (H : Hp) (C : Addr) (cl : List (Str × Addr)) (fp : List Addr), PI (X.blk s H scope (compEnvC scope cl C X.env) fp) tg1 iter1 (tI G W2 xi2))
    (hg1 : ∀ (s : Shared) (H : Hp) (C : Addr) (cl : List (Str × Addr)) (fp : List Addr), PG (X.blk s H scope (compEnvC scope cl C X.env) fp) tg1 (tGw G own2 t2)) (ht1 : ∀ (s : Shared) (H : Hp) (C : Addr) (cl : List (Str × Addr)) (fp : List Addr), PTs (X.blk s H scope (compEnvC scope cl C X.env) fp) ifs1 (tT G W2 c2))
    (he : ∀ (s : Shared) (H : Hp) (C : Addr) (cl : List (Str × Addr)) (fp : List Addr), PE (X.blk s H scope (compEnvC scope cl C X.env) fp) elt (tE G W2 x)) (hs : ∀ x, foldedSetIterable iter X.env x = pure x) (hs1 : ∀ env x, foldedSetIterable iter1 env x = pure x) :
    PS X (.Assign [.Name y py] (.ListComp elt [⟨tg, iter, ifs, 0⟩, ⟨tg1, iter1, ifs1, 0⟩] scope pos) spos) (tS G W (asgE (comp2E own own2 xi t c xi2 t2 c2 x) (nameT i))) := by
  subst ho
  exact ⟨fun pins s σ H D I h => (ps_setLc2 (vs1 := own2) hc hN hy hyl hsw hi ok hv hg ht hi1 hg1 ht1 he hs hs1).run pins s σ H D I (lc2_rd (tE_mono (asg_rd h) fun v H q => name_rd q))⟩
end
end Ev
set_option Elab.async false
set_option linter.all false
set_option maxRecDepth 100000
set_option maxHeartbeats 1000000
/-! E12: calls, instances, methods, properties. -/
namespace Ev
open PySem L2
open PyProof.Rows hiding St

/-- a call's promise: what the evaluator gives -/
def spC (G : Rt) (g : List PV → Store → R PV) : Sp := fun vs H Q E => ∃ F ρ S ps, SR G F ρ H S ∧ rvs G F ρ ps vs ∧ Post G F ρ H (g ps S) (rv G) Q E
/-- how the values of a call come to the parameters -/
def ArrK (K : PySem.W.Frag) (f : Addr) (us : List Value) (kw : List (Str × Value)) (bs : List Value) : Prop :=
  (kw = [] ∧ bs = us) ∨ ∃ oc od fd osl, K.lookup f = some ⟨oc, od, .func fd, osl⟩ ∧ fd.params.vararg.isNone = true ∧ fd.params.args.length = bs.length ∧ ∀ s : Shared, K.In s.heap → BindsTo s fd ⟨us, kw⟩ ((fd.params.args.map (·.arg)).zip bs)
/-- a promise by the parameters' values, where nothing's repr is under way -/
def FnG (P : Program) (w : World) (K : PySem.W.Frag) (mg : Str → Option Value) (base : Heap) (k : Nat) (f : Addr) (sp : Sp) : Prop :=
  ∀ (A : Around) (outer : List PySem.Env) (s : Shared) (H : Hp) (us : List Value) (kw : List (Str × Value)) (bs : List Value) (vs : List V) (Q : VK) (E : XK), Room k A → A.guards = some [] → Env0 P w K mg base A outer s H → ArrK K f us kw bs → Vals vs bs → sp vs H Q E →
    codeAny (model P w) A (.call (.ref f) ⟨us, kw⟩) (CR CX0 outer P w H s Q E) s
theorem FnG.mono {P : Program} {w : World} {K : PySem.W.Frag} {mg : Str → Option Value} {base : Heap} {j k : Nat} {f : Addr} {sp : Sp} (F : FnG P w K mg base j f sp) (h : j ≤ k) : FnG P w K mg base k f sp :=
  fun A outer s H us kw bs vs Q E hr => F A outer s H us kw bs vs Q E (hr.mono h)
/-- a class of the text -/
structure ClsOk (G : Rt) (fa : Nat → Addr) (c : Nat) (k : Cls) : Prop where
  cl : L2.Cls G.K (G.clsA c)
  made : Mk G.K (G.clsA c) (fa k.init)
  fld : ∀ n ∈ k.fields, NoAttr G.K (G.clsA c) (G.nm n)
  nd : (k.fields.map G.nm).Nodup
  len : k.fields.length < 1000
  met : ∀ n f, k.meths.lookup n = some f → Meth G.K (G.clsA c) (G.nm n) (fa f) ∧ G.nm n ∉ k.fields.map G.nm
  prop : ∀ n f, k.props.lookup n = some f → ∃ p, PropOf G.K (G.clsA c) (G.nm n) p (fa f)
  sf : PySem.W.selfFirst G.K (G.clsA c) = true
/-- an argument list, handed on with what stands ahead of it -/
def Wth (G : Rt) (W : WX) (X : Cx) (es : List Expr) (l : Env → Store → R (List PV)) : Prop :=
  ∀ (fv : Value) (v : List PV → Store → R PV) (pins : List (Addr × Obj)) (σ : Slots) (H : Hp) (s : Shared) (F : Hp) (ρ : List Addr) (e : Env) (S : Store) (first : List Value) (Q : VK) (pos : Pos), PySem.W.keepIn X.K fv = true → Inv X pins σ H s → SR G F ρ H S → rE G F ρ e σ →
    Post G F ρ H ((l e S).bind v) (rv G) Q (fun cls d H' => W cls d σ H') →
    (∀ ps S1 F1 ρ1 H1 vs us s1, Inv X pins σ H1 s1 → Vals vs us → SR G F1 ρ1 H1 S1 → Ext F ρ H F1 ρ1 H1 → rvs G F1 ρ1 ps vs → Post G F1 ρ1 H1 (v ps S1) (rv G) Q (fun cls d H' => W cls d σ H') → wpAny (model X.prog X.w) X.A (call fv (first ++ us)) (EP X pins σ Q) X.xe s1) →
    wpAny (model X.prog X.w) X.A (callWith pos fv first (backTo pos (starEach es X.env)) []) (EP X pins σ Q) X.xe s
section
variable {G : Rt} {X : Cx} {W : WX} {pins : List (Addr × Obj)} {σ : Slots} {H : Hp} {s : Shared} {F : Hp} {ρ : List Addr} {e : Env} {S : Store} {pos : Pos} {k : Nat} {f C : Addr} {g : List PV → Store → R PV} {fa : Nat → Addr}
/-- a call's end, in the caller's context -/
theorem back_ev {E : XK} {Q : VK} {E' : Value → Shared → Prop} (I : Inv X pins σ H s) {r : Result} {s' : Shared} : CR CX0 X.stack X.prog X.w H s Q E r s' → (match r with | .ok (.ret v) => EP X pins σ Q v s' | .ok _ => False | .error e => E' e s' : Prop) := by
  intro hq
  cases r with
  | error e => exact False.elim hq
  | ok fl =>
    cases fl with
    | ret u => exact I.after hq
    | next => exact False.elim hq
    | brk => exact False.elim hq
    | cont => exact False.elim hq
/-- the callee runs, in A -/
theorem run_at {A : Around} {E : XK} {Q : VK} {E' : Value → Shared → Prop} {us : List Value} {vs : List V} {sp : Sp} (Fn : FnG X.prog X.w X.K X.mg X.base k f sp) (hr : Room k A) (hg : A.guards = some []) (hA : A.frames = X.A.frames) (I : Inv X pins σ H s) (r : Vals vs us) (h : sp vs H Q E) :
    codeAny (model X.prog X.w) A (.call (.ref f) ⟨us, []⟩) (fun r s' => match r with | .ok (.ret v) => EP X pins σ Q v s' | .ok _ => False | .error e => E' e s') s := by
  have e := I.env0
  exact codeAny_mono (Fn A X.stack s H us [] us vs Q E hr hg ⟨by rw [hA]; exact e.frames, e.mod, e.bs, e.bsz, e.funs, e.frf, e.hok, e.bare⟩ (.inl ⟨rfl, rfl⟩) r h) fun r s' hq => back_ev I hq
theorem run_evK {W : XK} {Q : VK} {us bs : List Value} {kw : List (Str × Value)} {vs : List V} {ps : List PV} (Fn : FnG X.prog X.w X.K X.mg X.base k f (spC G g)) (hr : Room k X.A) (hg : X.A.guards = some []) (I : Inv X pins σ H s) (ar : ArrK X.K f us kw bs) (r : Vals vs bs) (hS : SR G F ρ H S) (q : rvs G F ρ ps vs)
    (hP : Post G F ρ H (g ps S) (rv G) Q W) : wpAny (model X.prog X.w) X.A (call (.ref f) us kw) (EP X pins σ Q) X.xe s := by
  have e := I.env0
  exact wpAny_call (codeAny_mono (Fn X.A X.stack s H us kw bs vs Q W hr hg ⟨e.frames, e.mod, e.bs, e.bsz, e.funs, e.frf, e.hok, e.bare⟩ ar r ⟨F, ρ, S, ps, hS, q, hP⟩) fun r s' hq => back_ev (E' := X.xe) I hq)
theorem run_ev {W : XK} {Q : VK} {us : List Value} {vs : List V} {ps : List PV} (Fn : FnG X.prog X.w X.K X.mg X.base k f (spC G g)) (hr : Room k X.A) (hg : X.A.guards = some []) (I : Inv X pins σ H s) (r : Vals vs us) (hS : SR G F ρ H S) (q : rvs G F ρ ps vs)
    (hP : Post G F ρ H (g ps S) (rv G) Q W) : wpAny (model X.prog X.w) X.A (call (.ref f) us) (EP X pins σ Q) X.xe s :=
  wpAny_call (run_at Fn hr hg rfl I r (E := W) ⟨F, ρ, S, ps, hS, q, hP⟩)
theorem guards_make {A : Around} {C : Addr} {us : List Value} {kw : List (Str × Value)} : (A.under (.builtin "type.__call__" ⟨.ref C :: us, kw⟩)).guards = A.guards := by
  first | rfl | simp [Around.under, Code.guards, Code.isGuard, pushGuards, guardIds]
/-- a new instance, whatever its __init__ promises -/
theorem run_makeG {sp : Sp} {E : XK} {Q : VK} {us : List Value} {vs : List V} (M : Mk X.K C f) (Fn : FnG X.prog X.w X.K X.mg X.base k f sp) (hr : Room (k + 1) X.A) (hg : X.A.guards = some []) (I : Inv X pins σ H s) (r : Vals vs us)
    (h : ∀ x dx, H x = Option.none → H dx = Option.none → dx ≠ x → sp (V.ref x :: vs) (upd (upd H dx (.own x)) x (.ins C dx [])) (fun v H2 => v = .non ∧ Q (.ref x) H2) E) :
    wpAny (model X.prog X.w) X.A (call (.ref C) us) (EP X pins σ Q) X.xe s := by
  have n1 : H (s.heap.objs.size + 1) = none := I.hok.fresh (Nat.le_succ _)
  have n2 : H s.heap.objs.size = none := I.hok.fresh (Nat.le_refl _)
  have I2 := Inv.made (C := C) I
  have e2 := I2.env0.make C us []
  refine wpAny_call (make_map (f := f) I.kIn M.makes M.init (beq_iff_eq.mp M.fn) (codeAny_mono (Fn _ X.stack _ _ (.ref (s.heap.objs.size + 1) :: us) [] _ (.ref (s.heap.objs.size + 1) :: vs) _ E (hr.make C us []) (by rw [guards_make]; exact hg) e2 (.inl ⟨rfl, rfl⟩) (.cons rfl r)
    (h _ _ n1 n2 (Nat.ne_of_lt (Nat.lt_succ_self _)))) fun r s' hq' => ?_))
  have z := back_ev (E' := X.xe) I2 hq'
  cases r with
  | error e => exact z
  | ok fl =>
    cases fl with
    | ret u =>
      obtain ⟨v, H', I3, rv', ev, q3⟩ := z
      subst ev
      exact ⟨rv', .ref (s.heap.objs.size + 1), H', I3, rfl, q3⟩
    | next => exact z
    | brk => exact z
    | cont => exact z
theorem star_any_false {es : List Expr} {env : PySem.Env} : es.all nostar = true → (backTo pos (starEach es env)).any (·.1) = false := by
  induction es with
  | nil => intro _; rfl
  | cons a r ih =>
    intro h
    have h' := Bool.and_eq_true_iff.mp (List.all_cons ▸ h)
    rw [star_no h'.1]
    show (false || (backTo pos (starEach r env)).any (·.1)) = false
    rw [ih h'.2]; rfl
theorem star_any_true {es : List Expr} {env : PySem.Env} : es.all nostar = false → (backTo pos (starEach es env)).any (·.1) = true := by
  induction es with
  | nil => intro h; cases h
  | cons a r ih =>
    intro h
    by_cases ha : nostar a = true
    · rw [star_no ha]
      show (false || (backTo pos (starEach r env)).any (·.1)) = true
      rw [List.all_cons, ha] at h
      rw [ih h]; rfl
    · cases a <;> first | exact absurd rfl ha | rfl
theorem wth_nil : Wth G W X [] (fun _ S => .ok [] S) := by
  intro fv v pins σ H s F ρ e S first Q pos hk I hS hE hP kk
  exact PySem.W.callWith_K0 I.kIn hk (kk [] S F ρ H [] [] s I .nil hS .refl (by unfold rvs; rfl) hP)
theorem wth_cons {a : Expr} {r : List Expr} {l : Env → Store → R (List PV)} (hn : nostar a = true) (ha : PA X (a :: r) (tL G W l)) : Wth G W X (a :: r) l := by
  intro fv v pins σ H s F ρ e S first Q pos hk I hS hE hP kk
  have go : wpAny (model X.prog X.w) X.A (spliced (backTo pos (starEach (a :: r) X.env))) (fun us s₁ => X.K.In s₁.heap ∧ wpAny (model X.prog X.w) X.A (call fv (first ++ us)) (EP X pins σ Q) X.xe s₁) X.xe s :=
    stepL ha I hS hE hP pos fun ps S1 F1 ρ1 H1 vs us s1 I1 r1 hS1 x1 hE1 q1 hP1 => ⟨I1.kIn, kk ps S1 F1 ρ1 H1 vs us s1 I1 r1 hS1 x1 q1 hP1⟩
  by_cases hs : r.all nostar = true
  · exact PySem.W.callWith_K (h₀ := X.base) I.ok.mod.kin hk go (star_no hn) (star_any_false hs)
  · exact PySem.W.callWith_S2 (h₀ := X.base) I.ok.mod.kin hk go (star_no hn) (star_any_true (by simpa using hs))
theorem wth_star {a : Expr} {p : Pos} {x : Env → Store → R PV} (hK : X.K = G.K) (ha : PE X a (tE G W x)) : Wth G W X [.Starred a p] (starL x fun _ S => .ok [] S) := by
  intro fv v pins σ H s F ρ e S first Q pos hk I hS hE hP kk
  unfold starL at hP
  rw [bind_assoc] at hP
  refine PySem.W.callWith_S (h₀ := X.base) I.ok.mod.kin hk (stepE ha I hS hE hP fun q S1 F1 ρ1 H1 w u s1 I1 r1 hS1 x1 hE1 q1 hP1 => ?_) rfl
  cases hi : items S1 q with
  | none => rw [hi] at hP1; exact hP1.elim
  | some xs =>
    rw [hi] at hP1
    obtain ⟨b, vs, rfl, sq, rr⟩ := items_ok hS1 q1 hi
    obtain rfl : u = Value.ref b := r1
    refine StX.star_any I1 (sq.elim (fun z => .inr (by rw [hK]; exact z)) fun z => .inl (by rw [hK]; exact z)) fun us s2 I2 rv2 => ⟨I2.kIn, ?_⟩
    simp only [opt_some, bind_ok, List.append_nil] at hP1
    exact kk xs S1 F1 ρ1 H1 vs us s2 I2 rv2 hS1 x1 rr hP1
section
variable {x : Str} {p : Pos} {es : List Expr} {l : Env → Store → R (List PV)}
theorem kw_nil {env : PySem.Env} : backToKw pos (keywordEach [] env) = [] := rfl
/-- f(..), f a def of the module -/
theorem se_call (Fn : FnG X.prog X.w X.K X.mg X.base k f (spC G g)) (hr : Room k X.A) (hgd : X.A.guards = some []) (hg : Gl X x) (hm : X.mg x = some (.ref f)) (hk : PySem.W.keepIn X.K (.ref f) = true) (hd : (x == ("__debug__" : Str)) = false) (ha : Wth G W X es l) :
    PE X (.Call (.Name x p) es [] pos) (tE G W fun e S => (l e S).bind fun ps S => g ps S) := by
  refine ⟨fun pins s σ H Q I ⟨F, ρ, e, S, hS, hE, hP⟩ => ?_⟩
  refine wpAny_Call_Name_kw (ld_glob I hg hm ?_ hd)
  exact ha (.ref f) g pins σ H s F ρ e S [] Q pos hk I hS hE hP fun ps S1 F1 ρ1 H1 vs us s1 I1 r1 hS1 x1 q1 hP1 => run_ev Fn hr hgd I1 r1 hS1 q1 hP1
/-! ### instances -/
theorem zip_nil {α β : Type} (xs : List α) : xs.zip ([] : List β) = [] := by cases xs <;> rfl
theorem take_set_ge {α : Type} (l : List α) (n : Nat) (x : α) : (l.set n x).take n = l.take n := by
  refine List.ext_getElem? fun i => ?_
  rw [List.getElem?_take, List.getElem?_take]
  by_cases h : i < n
  · rw [if_pos h, if_pos h, List.getElem?_set_ne (by omega)]
  · rw [if_neg h, if_neg h]
/-- a new instance, its __init__ run -/
theorem run_mk {T : Tb} {mk : Calls} {c : Nat} {kl : Cls} {Q : VK} {W : XK} {us : List Value} {vs : List V} {ps : List PV} (hK : X.K = G.K) (hT : T.cls[c]? = some kl) (M : Mk G.K (G.clsA c) f)
    (Fn : FnG X.prog X.w X.K X.mg X.base k f (spC G (mk kl.init))) (hr : Room (k + 1) X.A) (hgd : X.A.guards = some []) (I : Inv X pins σ H s) (r : Vals vs us) (hS : SR G F ρ H S) (q : rvs G F ρ ps vs)
    (hP : Post G F ρ H (makeE T mk c ps S) (rv G) Q W) : wpAny (model X.prog X.w) X.A (call (.ref (G.clsA c)) us) (EP X pins σ Q) X.xe s := by
  refine run_makeG (E := W) (by rw [hK]; exact M) Fn hr hgd I r fun x dx hx hdx hne => ?_
  obtain ⟨s1, x1⟩ := hS.layX hdx (.own x)
  have hx1 : (upd H dx (.own x)) x = none := by rw [upd_ne (Ne.symm hne)]; exact hx
  have hc : rc G F (ρ ++ [x]) (.ins c []) (some (.ins (G.clsA c) dx [])) := ⟨dx, [], by rw [zip_nil], Nat.zero_le _, by unfold rvs; rfl⟩
  obtain ⟨s2, x2⟩ := s1.cellX hx1 hc
  have hl : S.length = ρ.length := hS.len.symm
  have gx : (ρ ++ [x])[S.length]? = some x := by rw [hl]; simp
  refine ⟨F, ρ ++ [x], S ++ [.ins c []], .cell S.length :: ps, s2, ?_, ?_⟩
  · unfold rvs
    exact ⟨_, _, rfl, by unfold rv; exact ⟨x, rfl, gx⟩, rvs_ext (x1.trans x2) _ _ q⟩
  · unfold makeE at hP
    rw [hT] at hP
    dsimp only at hP
    cases hm : mk kl.init (.cell S.length :: ps) (S ++ [.ins c []]) with
    | bad => rw [hm] at hP; exact hP.elim
    | exc z S2 => exact fun _ _ _ _ _ _ _ q => q.elim
    | ok v S2 =>
      rw [hm] at hP
      simp only [bind_ok] at hP
      intro F3 ρ3 H3 b x3 s3 q3
      have xx := (x1.trans x2).trans x3
      cases v with
      | non =>
        unfold rv at q3
        refine ⟨q3, ?_⟩
        have hi : ρ3[S.length]? = some x := pre_get x3.r gx
        obtain ⟨c3, u3, h3, hu⟩ := s3.there hi
        rw [h3] at hP
        cases c3 with
        | ins c' fs =>
          dsimp only at hP
          by_cases hf : kl.frozen = true
          · rw [if_pos hf] at hP
            by_cases hc2 : ((c' == c) && (S2.length == S.length + 1) && lows S.length fs && (S2.take S.length).all (lowC S.length)) = true
            · rw [if_pos hc2] at hP
              simp only [Bool.and_eq_true, beq_iff_eq] at hc2
              obtain ⟨⟨⟨e1, e2⟩, e3⟩, e4⟩ := hc2
              subst e1
              obtain ⟨dx3, vs3, ho, hlen, rr⟩ := s3.at_ _ _ _ h3 hi
              obtain ⟨s4, x4⟩ := s3.freezeX hi h3 (fun z => by cases z) ho
              have s5 := s4.cut S.length (by rw [take_set_ge]; exact e4)
              rw [take_set_ge] at s5
              have pre : ρ <+: ρ3 := xx.r
              have tk : ρ3.take S.length = ρ := take_pre pre hl
              rw [tk] at s5
              have x5 := (xx.trans x4).back (List.prefix_refl _) pre
              refine hP _ ρ H3 (.ref x) x5 s5 ?_
              unfold rv
              refine ⟨x, dx3, vs3, rfl, upd_same, hlen, ?_⟩
              have := rvs_low (n := S.length) _ _ e3 rr
              rw [tk] at this
              exact rvs_mono x4.s (List.prefix_refl _) _ _ this
            · rw [if_neg hc2] at hP; exact hP.elim
          · rw [if_neg hf] at hP
            exact hP F3 ρ3 H3 (.ref x) xx s3 (by unfold rv; exact ⟨x, rfl, hi⟩)
        | _ => exact (show False from hP).elim
      | _ => exact (show False from hP).elim
theorem se_make {T : Tb} {mk : Calls} {c : Nat} {kl : Cls} (hK : X.K = G.K) (hT : T.cls[c]? = some kl) (M : Mk G.K (G.clsA c) f) (Fn : FnG X.prog X.w X.K X.mg X.base k f (spC G (mk kl.init))) (hr : Room (k + 1) X.A) (hgd : X.A.guards = some [])
    (hg : Gl X x) (hm : X.mg x = some (.ref (G.clsA c))) (hd : (x == ("__debug__" : Str)) = false) (ha : Wth G W X es l) :
    PE X (.Call (.Name x p) es [] pos) (tE G W fun e S => (l e S).bind fun ps S => makeE T mk c ps S) := by
  refine ⟨fun pins s σ H Q I ⟨F, ρ, e, S, hS, hE, hP⟩ => ?_⟩
  refine wpAny_Call_Name_kw (ld_glob I hg hm ?_ hd)
  exact ha (.ref (G.clsA c)) (makeE T mk c) pins σ H s F ρ e S [] Q pos (by rw [hK]; exact M.kp) I hS hE hP fun ps S1 F1 ρ1 H1 vs us s1 I1 r1 hS1 x1 q1 hP1 => run_mk hK hT M Fn hr hgd I1 r1 hS1 q1 hP1
/-! ### what an instance has -/
theorem lookup_zip {nm : Nat → Str} {n : Nat} : ∀ {fs : List Nat} {vs : List V} {i : Nat}, (fs.map nm).Nodup → fieldIx fs n = some i → ((fs.map nm).zip vs).lookup (nm n) = vs[i]?
  | [], vs, i, _, h => by cases h
  | x :: xs, vs, i, nd, h => by
    unfold fieldIx at h
    rw [List.map_cons] at nd ⊢
    have nd' := List.nodup_cons.mp nd
    by_cases hx : (x == n) = true
    · rw [if_pos hx] at h
      have e : x = n := by simpa using hx
      subst e
      cases h
      cases vs with
      | nil => rfl
      | cons v r => rw [List.zip_cons_cons, List.lookup_cons_self]; rfl
    · rw [if_neg hx] at h
      cases hy : fieldIx xs n with
      | none => rw [hy] at h; cases h
      | some j =>
        rw [hy] at h
        cases h
        have hmem : n ∈ xs := by
          clear nd nd' hx
          induction xs generalizing j with
          | nil => cases hy
          | cons z zs ih =>
            unfold fieldIx at hy
            by_cases hz : (z == n) = true
            · have e : z = n := by simpa using hz
              rw [e]; exact List.mem_cons_self
            · rw [if_neg hz] at hy
              cases hw : fieldIx zs n with
              | none => rw [hw] at hy; cases hy
              | some w => exact List.mem_cons_of_mem _ (ih w hw)
        have hne : (nm n == nm x) = false := by
          refine Bool.eq_false_iff.mpr fun z => nd'.1 ?_
          have z' : nm n = nm x := by simpa using z
          rw [← z']
          exact List.mem_map.mpr ⟨n, hmem, rfl⟩
        cases vs with
        | nil =>
          rw [zip_nil]
          rfl
        | cons v r =>
          rw [List.zip_cons_cons, List.lookup_cons, hne]
          exact lookup_zip nd'.2 hy
theorem fieldIx_mem {n : Nat} : ∀ {fs : List Nat} {i : Nat}, fieldIx fs n = some i → n ∈ fs
  | [], i, h => by cases h
  | x :: xs, i, h => by
    unfold fieldIx at h
    by_cases hx : (x == n) = true
    · have e : x = n := by simpa using hx
      rw [e]; exact List.mem_cons_self
    · rw [if_neg hx] at h
      cases hy : fieldIx xs n with
      | none => rw [hy] at h; cases h
      | some j => exact List.mem_cons_of_mem _ (fieldIx_mem hy)
theorem lookup_no {nm : Nat → Str} {m : Str} {fs : List Nat} {vs : List V} (h : m ∉ fs.map nm) : ((fs.map nm).zip vs).lookup m = none := by
  cases hl : ((fs.map nm).zip vs).lookup m with
  | none => rfl
  | some v => exact absurd (List.of_mem_zip (PySem.mem_of_lookup hl)).1 h
/-- an instance as it stands now: held by value, or in the store -/
theorem ins_at {p : PV} {v : V} {c : Nat} {fs : List PV} (hS : SR G F ρ H S) (hv : rv G F ρ p v) (h : insC S p = some (c, fs)) :
    ∃ a dx vs, v = .ref a ∧ H a = some (.ins (G.clsA c) dx ((G.fields c).zip vs)) ∧ vs.length ≤ (G.fields c).length ∧ rvs G F ρ fs vs := by
  unfold insC at h
  split at h
  · cases h
    unfold rv at hv
    obtain ⟨a, dx, vs, e, z, l, r⟩ := hv
    exact ⟨a, dx, vs, e, hS.sub _ _ z, l, r⟩
  · split at h
    · rename_i hi
      cases h
      unfold rv at hv
      obtain ⟨a, e, hr⟩ := hv
      obtain ⟨dx, vs, z, l, r⟩ := hS.at_ _ _ a hi hr
      exact ⟨a, dx, vs, e, z, l, r⟩
    · cases h
  · cases h
theorem fields_eq {c : Nat} {kl : Cls} (hT : G.T.cls[c]? = some kl) : G.fields c = kl.fields.map G.nm := by unfold Rt.fields; rw [hT]
/-- the getter of a property runs -/
theorem run_prop {W : XK} {Q : VK} {a p' dx : Addr} {fs : List (Str × V)} {nmf : Str} {b : Bool} {v : PV} {E' : Value → Shared → Prop} (hK : X.K = G.K) (I : Inv X pins σ H s) (ea : H a = some (.ins C dx fs)) (c : L2.Cls G.K C) (hp : PropOf G.K C nmf p' f)
    (Fn : FnG X.prog X.w X.K X.mg X.base k f (spC G g)) (hr : Room (k + 1) X.A) (hgd : X.A.guards = some []) (hS : SR G F ρ H S) (q : rv G F ρ v (.ref a)) (hP : Post G F ρ H (g [v] S) (rv G) Q W) :
    wpAny (model X.prog X.w) X.A (getAttr (.ref a) nmf b) (EP X pins σ Q) E' s := by
  rw [← hK] at c hp
  obtain ⟨mA, O, _, _, _, _⟩ := ins_get I.hok ea
  obtain ⟨od, J, _⟩ := O.look
  obtain ⟨rest, hrec⟩ := hp.rec_
  have I1 := I.tok (s.toks + 1)
  have hc : (PySem.W.clsIn X.K C).isSome = true := by
    obtain ⟨cd, hc, _⟩ := PySem.W.any_some c.hd
    rw [hc]
    rfl
  refine PySem.W.get_bind I.kIn J (PySem.W.plainGet_of (c.get nmf)).1 (PySem.W.findObj_data hc hp.at_ hp.get hp.tak) (PySem.W.plainGet_of (c.get nmf)).2 (wpAny_call (PySem.W.prop_get (s := { s with toks := s.toks + 1 }) I.kIn hrec ?_))
  refine codeAny_mono (run_at Fn hr.in1 hgd rfl I1 (us := [.ref a]) (vs := [.ref a]) (.cons rfl .nil) (E := W) (Q := Q) (E' := fun _ _ => False) ⟨F, ρ, S, [v], hS, by unfold rvs; exact ⟨_, _, rfl, q, by unfold rvs; rfl⟩, hP⟩) fun r s' hq => ?_
  cases r with
  | error er => exact False.elim hq
  | ok fl =>
    cases fl with
    | ret u =>
      obtain ⟨v', H', I3, rv', q3⟩ := hq
      show wpAny _ _ (handedOut u) _ _ _
      rw [PySem.W.handedOut_of (handed_of rv')]
      exact wpAny_pure ⟨v', H', I3, rv', q3⟩
    | next => exact False.elim hq
    | brk => exact False.elim hq
    | cont => exact False.elim hq
/-- e.f: an attribute or a property -/
theorem se_attr {a : Expr} {n : Nat} {x : Env → Store → R PV} {call : Calls} (hK : X.K = G.K) (hcl : ∀ c kl, G.T.cls[c]? = some kl → ClsOk G fa c kl) (Fn : ∀ f, FnG X.prog X.w X.K X.mg X.base k (fa f) (spC G (call f))) (hr : Room (k + 1) X.A) (hgd : X.A.guards = some [])
    (ha : PE X a (tE G W x)) (hb : attributeBase a (G.nm n) X.env (eval a X.env) = eval a X.env) : PE X (.Attribute a (G.nm n) pos) (tE G W fun e S => (x e S).bind fun p S => attrE G.T call p n S) := by
  refine ⟨fun pins s σ H Q I ⟨F, ρ, e, S, hS, hE, hP⟩ => ?_⟩
  refine attr_of hb (stepE ha I hS hE hP fun p S1 F1 ρ1 H1 v u s1 I1 r1 hS1 x1 hE1 q1 hP1 => ?_)
  unfold attrE at hP1
  cases hc : insC S1 p with
  | none => rw [hc] at hP1; exact hP1.elim
  | some cf =>
    obtain ⟨c, fs⟩ := cf
    rw [hc] at hP1
    dsimp only at hP1
    obtain ⟨b, dx, vs, rfl, hb1, hl, rr⟩ := ins_at hS1 q1 hc
    obtain rfl : u = Value.ref b := r1
    cases hk : G.T.cls[c]? with
    | none =>
      have e1 : fieldOf G.T c n = none := by unfold fieldOf; rw [hk]; rfl
      have e2 : propOf G.T c n = none := by unfold propOf; rw [hk]; rfl
      rw [e1] at hP1
      dsimp only at hP1
      rw [e2] at hP1
      exact hP1.elim
    | some kl =>
      have ok := hcl c kl hk
      have e1 : fieldOf G.T c n = fieldIx kl.fields n := by unfold fieldOf; rw [hk]; rfl
      have e2 : propOf G.T c n = kl.props.lookup n := by unfold propOf; rw [hk]; rfl
      rw [fields_eq hk] at hb1
      rw [e1] at hP1
      cases hf : fieldIx kl.fields n with
      | some i =>
        rw [hf] at hP1
        dsimp only at hP1
        cases hi : fs[i]? with
        | none => rw [hi] at hP1; exact hP1.elim
        | some p1 =>
          rw [hi] at hP1
          obtain ⟨v1, hv1, q2⟩ := rvs_get rr hi
          refine getattr_ok I1 hb1 (by rw [hK]; exact ok.cl) (by rw [hK]; exact ok.fld n (fieldIx_mem hf)) ((lookup_zip ok.nd hf).trans hv1) fun u2 s2 I2 r2 => ⟨v1, H1, I2, r2, hP1.ok hS1 q2⟩
      | none =>
        rw [hf] at hP1
        dsimp only at hP1
        rw [e2] at hP1
        cases hp : kl.props.lookup n with
        | none => rw [hp] at hP1; exact hP1.elim
        | some f =>
          rw [hp] at hP1
          obtain ⟨p', pr⟩ := ok.prop n f hp
          exact run_prop hK I1 hb1 ok.cl pr (Fn f) hr hgd hS1 q1 hP1
/-- o.m(..) -/
theorem se_meth {a : Expr} {n : Nat} {x : Env → Store → R PV} {call : Calls} {apos : Pos} {pl : Sem Bool} (hK : X.K = G.K) (hcl : ∀ c kl, G.T.cls[c]? = some kl → ClsOk G fa c kl) (Fn : ∀ f, FnG X.prog X.w X.K X.mg X.base k (fa f) (spC G (call f))) (hr : Room k X.A) (hgd : X.A.guards = some [])
    (ha : PE X a (tE G W x)) (hl : Wth G W X es l)
    (ht : eval (.Call (.Attribute a (G.nm n) apos) es [] pos) X.env = (do
      let ov ← eval a X.env
      standAt apos.atName
      let (f, first) ← holding [ov] (getMethod ov (G.nm n) pl)
      callWith pos f first (backTo pos (starEach es X.env)) (backToKw pos (keywordEach [] X.env)))) :
    PE X (.Call (.Attribute a (G.nm n) apos) es [] pos) (tE G W fun e S => (x e S).bind fun p S => (opt (methF G.T p n S) S).bind fun f S => (l e S).bind fun ps S => call f (p :: ps) S) := by
  refine ⟨fun pins s σ H Q I ⟨F, ρ, e, S, hS, hE, hP⟩ => ?_⟩
  refine PySem.W.methodCall_KW (pl := pl) (stepE ha I hS hE hP fun p S1 F1 ρ1 H1 v u s1 I1 r1 hS1 x1 hE1 q1 hP1 => ?_) ht
  unfold methF at hP1
  cases hc : insC S1 p with
  | none => rw [hc] at hP1; exact hP1.elim
  | some cf =>
    obtain ⟨c, fs⟩ := cf
    rw [hc] at hP1
    dsimp only at hP1
    obtain ⟨b, dx, vs, rfl, hb1, hlen, rr⟩ := ins_at hS1 q1 hc
    obtain rfl : u = Value.ref b := r1
    cases hk : G.T.cls[c]? with
    | none =>
      have e1 : methOf G.T c n = none := by unfold methOf; rw [hk]; rfl
      rw [e1] at hP1; exact hP1.elim
    | some kl =>
      have ok := hcl c kl hk
      have e1 : methOf G.T c n = kl.meths.lookup n := by unfold methOf; rw [hk]; rfl
      rw [e1] at hP1
      cases hm : kl.meths.lookup n with
      | none => rw [hm] at hP1; exact hP1.elim
      | some f =>
        rw [hm] at hP1
        simp only [opt_some, bind_ok] at hP1
        obtain ⟨M, hno⟩ := ok.met n f hm
        rw [fields_eq hk] at hb1
        refine getmeth_ok I1 hb1 (by rw [hK]; exact ok.cl) (by rw [hK]; exact M) (lookup_no hno) ?_
        exact hl (.ref (fa f)) (fun ps S => call f (p :: ps) S) pins σ H1 s1 F1 ρ1 e S1 [.ref b] Q pos (by rw [hK]; exact M.kp) I1 hS1 hE1 hP1 fun ps S2 F2 ρ2 H2 ws us s2 I2 r2 hS2 x2 q2 hP2 =>
          run_ev (us := .ref b :: us) (vs := .ref b :: ws) (g := call f) (Fn f) hr hgd I2 (.cons rfl r2) hS2 (by unfold rvs; exact ⟨_, _, rfl, rv_ext x2 _ _ q1, q2⟩) hP2
end
end
end Ev
set_option Elab.async false
set_option linter.all false
set_option maxRecDepth 100000
set_option maxHeartbeats 1000000
/-! E13: stores into attributes and lists; two or three names at once; class methods; zip, enumerate. -/
namespace Ev
open PySem L2
open PyProof.Rows hiding St

section
variable {G : Rt} {X : Cx} {W : WX} {pins : List (Addr × Obj)} {σ : Slots} {H : Hp} {s : Shared} {F : Hp} {ρ : List Addr} {e : Env} {S : Store} {pos : Pos} {k : Nat} {f C : Addr} {g : List PV → Store → R PV} {fa : Nat → Addr}
/-! ### attributes -/
def attrT (T : Tb) (x : Env → Store → R PV) (n : Nat) : PV → Env → Store → R Env := fun v e S => (x e S).bind fun p S => (setAttrE T p n v S).bind fun _ S => .ok e S
theorem putF_new {nm : Nat → Str} {n : Nat} {v : V} : ∀ {fs : List Nat} {vs : List V}, (fs.map nm).Nodup → fieldIx fs n = some vs.length → putF (nm n) v ((fs.map nm).zip vs) = (fs.map nm).zip (vs ++ [v])
  | [], vs, _, h => by cases h
  | x :: xs, vs, nd, h => by
    rw [List.map_cons] at nd ⊢
    have nd' := List.nodup_cons.mp nd
    unfold fieldIx at h
    by_cases hx : (x == n) = true
    · rw [if_pos hx] at h
      have e : x = n := by simpa using hx
      subst e
      have hl : vs.length = 0 := (Option.some.inj h).symm
      have : vs = [] := List.length_eq_zero_iff.mp hl
      subst this
      rw [zip_nil]
      show _ = (nm x, v) :: (xs.map nm).zip []
      rw [zip_nil]
      rfl
    · rw [if_neg hx] at h
      cases hy : fieldIx xs n with
      | none => rw [hy] at h; cases h
      | some j =>
        rw [hy] at h
        have hj : j + 1 = vs.length := Option.some.inj h
        cases vs with
        | nil => simp at hj
        | cons w ws =>
          have hne : nm n ≠ nm x := fun z => nd'.1 (by rw [← z]; exact List.mem_map.mpr ⟨n, fieldIx_mem hy, rfl⟩)
          rw [List.zip_cons_cons]
          show (if nm x = nm n then _ else _) = _
          rw [if_neg (fun z => hne z.symm), putF_new nd'.2 (by rw [hy]; congr 1; simp at hj; exact hj)]
          rfl
theorem putF_old {nm : Nat → Str} {n : Nat} {v : V} : ∀ {fs : List Nat} {vs : List V} {j : Nat}, (fs.map nm).Nodup → fieldIx fs n = some j → j < vs.length → putF (nm n) v ((fs.map nm).zip vs) = (fs.map nm).zip (vs.set j v)
  | [], vs, j, _, h, _ => by cases h
  | x :: xs, vs, j, nd, h, hl => by
    rw [List.map_cons] at nd ⊢
    have nd' := List.nodup_cons.mp nd
    unfold fieldIx at h
    cases vs with
    | nil => simp at hl
    | cons w ws =>
      rw [List.zip_cons_cons]
      by_cases hx : (x == n) = true
      · rw [if_pos hx] at h
        have e : x = n := by simpa using hx
        subst e
        cases h
        show (if nm x = nm x then _ else _) = _
        rw [if_pos rfl]
        rfl
      · rw [if_neg hx] at h
        cases hy : fieldIx xs n with
        | none => rw [hy] at h; cases h
        | some i =>
          rw [hy] at h
          cases h
          have hne : nm n ≠ nm x := fun z => nd'.1 (by rw [← z]; exact List.mem_map.mpr ⟨n, fieldIx_mem hy, rfl⟩)
          show (if nm x = nm n then _ else _) = _
          rw [if_neg (fun z => hne z.symm), putF_old nd'.2 hy (by simpa using hl)]
          rfl
theorem rvs_set {xs : List PV} {vs : List V} {p : PV} {v : V} (h : rvs G F ρ xs vs) (q : rv G F ρ p v) : ∀ (j : Nat), rvs G F ρ (xs.set j p) (vs.set j v) := by
  induction xs generalizing vs with
  | nil => intro j; unfold rvs at h; subst h; simp [rvs]
  | cons x r ih =>
    intro j
    unfold rvs at h
    obtain ⟨w, s, rfl, a, b⟩ := h
    cases j with
    | zero => show rvs G F ρ (p :: r) (v :: s); unfold rvs; exact ⟨v, s, rfl, q, b⟩
    | succ j => show rvs G F ρ (x :: r.set j p) (w :: s.set j v); unfold rvs; exact ⟨w, _, rfl, a, ih b j⟩
theorem ss_fld {a v : Expr} {n : Nat} {x y : Env → Store → R PV} {pos' : Pos} (hK : X.K = G.K) (hcl : ∀ c kl, G.T.cls[c]? = some kl → ClsOk G fa c kl) (ha : PE X a (tE G W x)) (hv : PE X v (tE G W y))
    (hs : swapsWith v (some (.Attribute a (G.nm n) pos')) pos.line X.env = pure false) : PS X (.Assign [.Attribute a (G.nm n) pos'] v pos) (tS G W (asgE y (attrT G.T x n))) := by
  refine ⟨fun pins s σ H D I ⟨F, ρ, e, S, hS, hE, hP⟩ => ?_⟩
  refine plainObj_wpAny_Assign_Attribute (stepS hv I hS hE hP fun p S1 F1 ρ1 H1 w u s1 I1 r1 hS1 x1 hE1 q1 hP1 => ?_) hs
  unfold attrT at hP1
  have key : ∀ r : R PV, x e S1 = r → (match r with
      | .ok p1 S2 => PostS G F1 ρ1 H1 ((setAttrE G.T p1 n p S2).bindB fun _ S => .ok (.next e) S) D W
      | _ => False) := fun r hr => by
    rw [hr] at hP1
    cases r with
    | bad => exact hP1.elim
    | exc z S2 => exact hP1.elim
    | ok p1 S2 =>
      show PostS G F1 ρ1 H1 _ D W
      simp only [bind_ok] at hP1
      cases hq : setAttrE G.T p1 n p S2 with
      | bad => rw [hq] at hP1; exact hP1.elim
      | exc z S3 => rw [hq] at hP1; exact hP1.elim
      | ok z S3 => rw [hq] at hP1; exact hP1
  have hx := key _ rfl
  refine thn (ha.run pins s1 σ H1 (fun v2 H2 => ∃ p2 S2 F2 ρ2, SR G F2 ρ2 H2 S2 ∧ Ext F1 ρ1 H1 F2 ρ2 H2 ∧ rv G F2 ρ2 p2 v2 ∧ PostS G F2 ρ2 H2 ((setAttrE G.T p2 n p S2).bindB fun _ S => .ok (.next e) S) D W) I1 ⟨F1, ρ1, e, S1, hS1, hE1, ?_⟩) fun u2 s2 ⟨v2, H2, I2, r2, p2, S2, F2, ρ2, hS2, x2, q2, hP2⟩ => ?_
  · cases hr : x e S1 with
    | bad => rw [hr] at hx; exact hx.elim
    | exc z S2 => rw [hr] at hx; exact hx.elim
    | ok p1 S2 =>
      rw [hr] at hx
      exact fun F2 ρ2 H2 v2 x2 s2 q2 => ⟨p1, S2, F2, ρ2, s2, x2, q2, PostS.mono x2 hx⟩
  · unfold setAttrE at hP2
    split at hP2
    · rename_i i
      unfold rv at q2
      obtain ⟨b, rfl, hb⟩ := q2
      obtain rfl : u2 = Value.ref b := r2
      split at hP2
      · rename_i c fs hi
        obtain ⟨dx, vs, ho, hlen, rr⟩ := hS2.at_ _ _ b hi hb
        cases hk : G.T.cls[c]? with
        | none =>
          have e1 : fieldOf G.T c n = none := by unfold fieldOf; rw [hk]; rfl
          rw [e1] at hP2; exact hP2.elim
        | some kl =>
          have ok := hcl c kl hk
          have e1 : fieldOf G.T c n = fieldIx kl.fields n := by unfold fieldOf; rw [hk]; rfl
          have e3 := fields_eq hk
          rw [e1] at hP2
          rw [e3] at ho hlen
          rw [List.length_map] at hlen
          have hl2 : fs.length = vs.length := rvs_len rr
          cases hf : fieldIx kl.fields n with
          | none => rw [hf] at hP2; exact hP2.elim
          | some j =>
            rw [hf] at hP2
            dsimp only at hP2
            have hz : ((kl.fields.map G.nm).zip vs).length < 1000 := by
              rw [List.length_zip, List.length_map]
              have := ok.len
              omega
            have hjl : j < kl.fields.length := by
              clear hP2
              generalize kl.fields = fl at hf
              induction fl generalizing j with
              | nil => cases hf
              | cons z zs ih =>
                unfold fieldIx at hf
                by_cases hz : (z == n) = true
                · rw [if_pos hz] at hf; cases hf; simp
                · rw [if_neg hz] at hf
                  cases hw : fieldIx zs n with
                  | none => rw [hw] at hf; cases hf
                  | some w => rw [hw] at hf; cases hf; have := ih w hw; simp; omega
            have fin : ∀ (fs' : List PV) (vs' : List V), rvs G F2 ρ2 fs' vs' → vs'.length ≤ kl.fields.length → putF (G.nm n) w ((kl.fields.map G.nm).zip vs) = (kl.fields.map G.nm).zip vs' → PostS G F2 ρ2 H2 (R.ok (Fl.next e) (S2.set i (.ins c fs'))) D W →
                wpAny (model X.prog X.w) X.A (setAttr (.ref b) (G.nm n) u) (fun _ s' => SP X pins D .next s') X.xe s2 := fun fs' vs' r' hl' hput hP3 => by
              refine setattr_ok I2 ho (by rw [hK]; exact ok.cl) (by rw [hK]; exact ok.fld n (fieldIx_mem hf)) hz r1 fun s3 I3 => ?_
              rw [hput] at I3
              obtain ⟨s4, x4⟩ := hS2.writeX (c := .ins c fs') (o := .ins (G.clsA c) dx ((kl.fields.map G.nm).zip vs')) hb hi (fun z => by cases z) ⟨dx, vs', by rw [e3], by rw [e3, List.length_map]; exact hl', r'⟩
              exact ⟨σ, _, I3, hP3 F2 ρ2 _ σ x4 s4 (rE_ext x2 hE1)⟩
            by_cases h1 : j < fs.length
            · rw [if_pos h1] at hP2
              exact fin _ _ (rvs_set rr (rv_ext x2 _ _ q1) j) (by rw [List.length_set]; exact hlen) (putF_old ok.nd hf (by omega)) hP2
            · rw [if_neg h1] at hP2
              by_cases h2 : (j == fs.length) = true
              · rw [if_pos h2] at hP2
                have e2 : j = fs.length := by simpa using h2
                exact fin _ _ (rvs_snoc rr (rv_ext x2 _ _ q1)) (by simp; omega) (putF_new ok.nd (by rw [hf, e2, hl2])) hP2
              · rw [if_neg h2] at hP2; exact hP2.elim
      · exact hP2.elim
    · exact hP2.elim
/-! ### a place of a list -/
def ixT (x y : Env → Store → R PV) : PV → Env → Store → R Env := fun v e S => (x e S).bind fun p S => (y e S).bind fun q S => (setItemE p q v S).bind fun _ S => .ok e S
theorem PostG.next {α : Type} {r : R α} {h : α → Store → R Env} {Q : Slots → Hp → Prop} (hP : PostG G F ρ H (r.bind h) Q) : ∃ a S', r = .ok a S' ∧ PostG G F ρ H (h a S') Q := by
  cases r with
  | bad => exact hP.elim
  | exc z S2 => exact hP.elim
  | ok a S' => exact ⟨a, S', rfl, hP⟩
theorem ixN_ixZ {n : Nat} {i : Int} {j : Nat} (h : ixZ n i = some j) : ixN n i = some j := h
theorem sg_ix {a b : Expr} {x y : Env → Store → R PV} (ha : PE X a (tE G W x)) (hb : PE X b (tE G W y)) (hn : ∀ v, assign (.Subscript a b pos) X.env v = (do
      let ov ← holding [v] (eval a X.env)
      let iv ← holding [v, ov] (eval b X.env)
      standAt pos
      holding [v, ov, iv] (setItem ov iv v)
      release [v, ov, iv] [])) : PG X (.Subscript a b pos) (tG G (ixT x y)) := by
  refine ⟨fun pins s σ H v u Q I r ⟨F, ρ, e, S, p, hS, hE, hv, hP⟩ => (pg_sub ha hb set_list hn).run pins s σ H v u Q I r ?_⟩
  unfold ixT at hP
  obtain ⟨p1, S1, e1, hP1⟩ := PostG.next hP
  refine ⟨F, ρ, e, S, hS, hE, ?_⟩
  rw [e1]
  intro F1 ρ1 H1 o x1 hS1 q1
  obtain ⟨p2, S2, e2, hP2⟩ := PostG.next (PostG.mono x1 hP1)
  refine ⟨F1, ρ1, e, S1, hS1, rE_ext x1 hE, ?_⟩
  rw [e2]
  intro F2 ρ2 H2 i x2 hS2 q2
  have hP3 := PostG.mono x2 hP2
  unfold setItemE at hP3
  split at hP3
  · rename_i i' j
    have q1' := rv_ext x2 _ _ q1
    unfold rv at q1'
    obtain ⟨b', rfl, hb'⟩ := q1'
    have ei := rv_int q2
    subst ei
    split at hP3
    · rename_i xs hi
      obtain ⟨vs, ho, rr⟩ := hS2.at_ _ _ b' hi hb'
      split at hP3
      · rename_i kk hk
        refine ⟨b', vs, j, kk, rfl, rfl, ho, ixN_ixZ (by rw [← rvs_len rr]; exact hk), ?_⟩
        obtain ⟨s4, x4⟩ := hS2.writeX (c := .lst (xs.set kk p)) (o := .lst (vs.set kk v)) hb' hi (fun z => by cases z) ⟨_, rfl, rvs_set rr (rv_ext (x1.trans x2) _ _ hv) kk⟩
        exact hP3 F2 ρ2 _ σ x4 s4 (rE_ext (x1.trans x2) hE)
      · exact hP3.elim
    · exact hP3.elim
  · exact hP3.elim
/-! ### two or three names at once -/
def parE (l : Env → Store → R (List PV)) (is : List Nat) : Env → Store → R Fl := fun e S => (l e S).bindS e fun ps S => if ps.length ≤ lim then (if ps.length == is.length && is.all (decide <| · < e.length) then .ok (.next ((is.zip ps).foldl (fun e ip => e.set ip.1 (some ip.2)) e)) S else .bad) else .bad
theorem tL_run {l : Env → Store → R (List PV)} {f : List PV → Store → R Fl} {D : Ends} (hS : SR G F ρ H S) (hE : rE G F ρ e σ) (hP : PostS G F ρ H ((l e S).bindS e f) D W) {Q : List V → Hp → Prop}
    (kk : ∀ ps S1 F1 ρ1 H1 vs, SR G F1 ρ1 H1 S1 → Ext F ρ H F1 ρ1 H1 → rE G F1 ρ1 e σ → rvs G F1 ρ1 ps vs → PostS G F1 ρ1 H1 (f ps S1) D W → Q vs H1) : tL G W l σ H Q := by
  refine ⟨F, ρ, e, S, hS, hE, ?_⟩
  cases hx : l e S with
  | bad => rw [hx] at hP; exact hP.elim
  | exc z S1 => rw [hx] at hP; exact fun F1 ρ1 H1 c d x1 s1 q => hP F1 ρ1 H1 σ c d x1 s1 (rE_ext x1 hE) q
  | ok ps S1 => rw [hx] at hP; exact fun F1 ρ1 H1 vs x1 s1 q => kk ps S1 F1 ρ1 H1 vs s1 x1 (rE_ext x1 hE) q (PostS.mono x1 hP)
theorem ss_par {i j : Nat} {x y : Str} {a b : Expr} {l : Env → Store → R (List PV)} {px py pt : Pos} {kt k2 pt2} (hc : X.calm = true) (hN : X.N.Nodup) (hi : X.N[i]? = some x) (hj : X.N[j]? = some y) (hij : i ≠ j)
    (hx : X.env.scope.names.lookup x = some .local) (hy : X.env.scope.names.lookup y = some .local) (ha : PA X [a, b] (tL G W l))
    (hw : swappedStores [.Tuple [.Name x px, .Name y py] kt pt] (.Tuple [a, b] k2 pt2) X.env = pure (some [x, y])) :
    PS X (.Assign [.Tuple [.Name x px, .Name y py] kt pt] (.Tuple [a, b] k2 pt2) pos) (tS G W (parE l [i, j])) := by
  refine ⟨fun pins s σ H D I ⟨F, ρ, e, S, hS, hE, hP⟩ => (ps_par hc hN hi hj hij hx hy ha hw rfl).run pins s σ H D I ?_⟩
  unfold parE at hP
  refine tL_run hS hE hP fun ps S1 F1 ρ1 H1 vs hS1 x1 hE1 q1 hP1 => ?_
  by_cases h1 : ps.length ≤ lim
  · rw [if_pos h1] at hP1
    match ps, hP1, q1 with
    | [p, q], hP1, q1 =>
      obtain ⟨v, r, rfl, q2, q3⟩ := rvs_cons q1
      obtain ⟨w, r', rfl, q4, q5⟩ := rvs_cons q3
      have e5 := rvs_nil q5
      subst e5
      refine ⟨v, w, rfl, ?_⟩
      by_cases h2 : (([p, q] : List PV).length == [i, j].length && [i, j].all (decide <| · < e.length)) = true
      · rw [if_pos h2] at hP1
        exact hP1 F1 ρ1 H1 _ .refl hS1 (rE_set (rE_set hE1 q2) q4)
      · rw [if_neg h2] at hP1; exact hP1.elim
    | [], hP1, _ => exact (show False from hP1).elim
    | [_], hP1, _ => exact (show False from hP1).elim
    | _ :: _ :: _ :: _, hP1, _ =>
      rw [if_neg (by simp)] at hP1
      exact hP1.elim
  · rw [if_neg h1] at hP1; exact hP1.elim
theorem ss_par3 {i j m : Nat} {x y z : Str} {a b c : Expr} {l : Env → Store → R (List PV)} {px py pz pt : Pos} {kt k2 pt2} (hc : X.calm = true) (hN : X.N.Nodup) (hi : X.N[i]? = some x) (hj : X.N[j]? = some y) (hm : X.N[m]? = some z) (hij : i ≠ j) (him : i ≠ m) (hjm : j ≠ m)
    (hx : X.env.scope.names.lookup x = some .local) (hy : X.env.scope.names.lookup y = some .local) (hz : X.env.scope.names.lookup z = some .local) (ha : PA X [a, b, c] (tL G W l))
    (hw : swappedStores [.Tuple [.Name x px, .Name y py, .Name z pz] kt pt] (.Tuple [a, b, c] k2 pt2) X.env = pure (some [x, y, z])) :
    PS X (.Assign [.Tuple [.Name x px, .Name y py, .Name z pz] kt pt] (.Tuple [a, b, c] k2 pt2) pos) (tS G W (parE l [i, j, m])) := by
  refine ⟨fun pins s σ H D I ⟨F, ρ, e, S, hS, hE, hP⟩ => (ps_par3 hc hN hi hj hm hij him hjm hx hy hz ha hw rfl).run pins s σ H D I ?_⟩
  unfold parE at hP
  refine tL_run hS hE hP fun ps S1 F1 ρ1 H1 vs hS1 x1 hE1 q1 hP1 => ?_
  by_cases h1 : ps.length ≤ lim
  · rw [if_pos h1] at hP1
    match ps, hP1, q1 with
    | [p, q, r0], hP1, q1 =>
      obtain ⟨v, r, rfl, q2, q3⟩ := rvs_cons q1
      obtain ⟨w, r', rfl, q4, q5⟩ := rvs_cons q3
      obtain ⟨w3, r3, rfl, q6, q7⟩ := rvs_cons q5
      have e5 := rvs_nil q7
      subst e5
      refine ⟨v, w, w3, rfl, ?_⟩
      by_cases h2 : (([p, q, r0] : List PV).length == [i, j, m].length && [i, j, m].all (decide <| · < e.length)) = true
      · rw [if_pos h2] at hP1
        exact hP1 F1 ρ1 H1 _ .refl hS1 (rE_set (rE_set (rE_set hE1 q2) q4) q6)
      · rw [if_neg h2] at hP1; exact hP1.elim
    | [], hP1, _ => exact (show False from hP1).elim
    | [_], hP1, _ => exact (show False from hP1).elim
    | [_, _], hP1, _ => exact (show False from hP1).elim
    | _ :: _ :: _ :: _ :: _, hP1, _ =>
      rw [if_neg (by simp)] at hP1
      exact hP1.elim
  · rw [if_neg h1] at hP1; exact hP1.elim
/-! ### zip, enumerate -/
theorem zipL_get : ∀ {xs ys : List PV} {i : Nat} {p : PV}, (zipL xs ys)[i]? = some p → ∃ a b, xs[i]? = some a ∧ ys[i]? = some b ∧ p = .tup [a, b]
  | [], _, i, p, h => by simp [zipL] at h
  | _ :: _, [], i, p, h => by simp [zipL] at h
  | x :: xs, y :: ys, 0, p, h => by simp [zipL] at h; exact ⟨x, y, rfl, rfl, h.symm⟩
  | x :: xs, y :: ys, i + 1, p, h => zipL_get (xs := xs) (ys := ys) (by simpa [zipL] using h)
theorem zipL_len : ∀ {xs ys : List PV}, xs.length = ys.length → (zipL xs ys).length = xs.length
  | [], _, _ => rfl
  | _ :: _, [], h => by simp at h
  | x :: xs, y :: ys, h => by show (zipL xs ys).length + 1 = _; rw [zipL_len (by simpa using h)]; rfl
theorem enumL_get : ∀ {xs : List PV} {k i : Nat} {p : PV}, (enumL k xs)[i]? = some p → ∃ a, xs[i]? = some a ∧ p = .tup [.int ((k + i : Nat) : Int), a]
  | [], k, i, p, h => by simp [enumL] at h
  | x :: xs, k, 0, p, h => by simp [enumL] at h; exact ⟨x, rfl, by rw [← h]; simp⟩
  | x :: xs, k, i + 1, p, h => by
    obtain ⟨a, h1, h2⟩ := enumL_get (xs := xs) (k := k + 1) (i := i) (p := p) (by simpa [enumL] using h)
    exact ⟨a, by simpa using h1, by rw [h2]; congr 3; omega⟩
theorem enumL_len : ∀ {xs : List PV} {k : Nat}, (enumL k xs).length = xs.length
  | [], _ => rfl
  | x :: xs, k => by show (enumL (k + 1) xs).length + 1 = _; rw [enumL_len]; rfl
theorem wlk_zipL {a b : Addr} {xs ys : List PV} {vs ws : List V} (hF : F a = some (.lst vs)) (hF2 : F b = some (.lst ws)) (r : rvs G F ρ xs vs) (r2 : rvs G F ρ ys ws) (hl : xs.length = ys.length) : Wlk G (Itz G.K a b) (zipL xs ys) F ρ where
  go := fun i H hi hs => by
    rw [zipL_len hl] at hi
    exact ⟨vs, ws, vs[i]'(by rw [← rvs_len r]; exact hi), ws[i]'(by rw [← rvs_len r2, ← hl]; exact hi), SqL.of (hs _ _ hF), SqL.of (hs _ _ hF2), by simp, by simp⟩
  stop := fun H hs => ⟨vs, ws, SqL.of (hs _ _ hF), SqL.of (hs _ _ hF2), .inl (by rw [zipL_len hl, rvs_len r]; exact Nat.le_refl _)⟩
  yld := fun i H x H' F1 ρ1 S p h1 l1 hS hp y => by
    obtain ⟨T, v, w, rfl, hT, rfl, e1, e2⟩ := y
    obtain ⟨pa, pb, g1, g2, rfl⟩ := zipL_get hp
    obtain ⟨v', hv', q1⟩ := rvs_get r g1
    obtain ⟨w', hw', q2⟩ := rvs_get r2 g2
    have z1 := e1 vs (SqL.of (hS.sub _ _ (h1 _ _ hF)))
    have z2 := e2 ws (SqL.of (hS.sub _ _ (h1 _ _ hF2)))
    rw [hv'] at z1; cases z1
    rw [hw'] at z2; cases z2
    obtain ⟨s1, x1⟩ := hS.newX hT (.tup [v, w])
    refine ⟨_, x1, s1, ?_⟩
    unfold rv
    exact ⟨T, [v, w], rfl, .inl (.inl upd_same), by unfold rvs; exact ⟨_, _, rfl, rv_ext x1 _ _ (rv_mono h1 l1 _ _ q1), by unfold rvs; exact ⟨_, _, rfl, rv_ext x1 _ _ (rv_mono h1 l1 _ _ q2), by unfold rvs; rfl⟩⟩⟩
theorem wlk_zipT {a b : Addr} {xs ys : List PV} {vs ws : List V} (hF : SqT G.K F a vs) (hF2 : SqT G.K F b ws) (r : rvs G F ρ xs vs) (r2 : rvs G F ρ ys ws) (hl : xs.length = ys.length) : Wlk G (RZ.ItzT G.K a b) (zipL xs ys) F ρ where
  go := fun i H hi hs => by
    rw [zipL_len hl] at hi
    exact ⟨vs, ws, vs[i]'(by rw [← rvs_len r]; exact hi), ws[i]'(by rw [← rvs_len r2, ← hl]; exact hi), sqT_mono hs hF, sqT_mono hs hF2, by simp, by simp⟩
  stop := fun H hs => ⟨vs, ws, sqT_mono hs hF, sqT_mono hs hF2, .inl (by rw [zipL_len hl, rvs_len r]; exact Nat.le_refl _)⟩
  yld := fun i H x H' F1 ρ1 S p h1 l1 hS hp y => by
    obtain ⟨T, v, w, rfl, hT, rfl, e1, e2⟩ := y
    obtain ⟨pa, pb, g1, g2, rfl⟩ := zipL_get hp
    obtain ⟨v', hv', q1⟩ := rvs_get r g1
    obtain ⟨w', hw', q2⟩ := rvs_get r2 g2
    have z1 := e1 vs (sqT_mono hS.sub (sqT_mono h1 hF))
    have z2 := e2 ws (sqT_mono hS.sub (sqT_mono h1 hF2))
    rw [hv'] at z1; cases z1
    rw [hw'] at z2; cases z2
    obtain ⟨s1, x1⟩ := hS.newX hT (.tup [v, w])
    refine ⟨_, x1, s1, ?_⟩
    unfold rv
    exact ⟨T, [v, w], rfl, .inl (.inl upd_same), by unfold rvs; exact ⟨_, _, rfl, rv_ext x1 _ _ (rv_mono h1 l1 _ _ q1), by unfold rvs; exact ⟨_, _, rfl, rv_ext x1 _ _ (rv_mono h1 l1 _ _ q2), by unfold rvs; rfl⟩⟩⟩
theorem wlk_enum {a : Addr} {xs : List PV} {vs : List V} (hF : F a = some (.lst vs)) (r : rvs G F ρ xs vs) : Wlk G (Ite G.K a) (enumL 0 xs) F ρ where
  go := fun i H hi hs => by
    rw [enumL_len] at hi
    exact ⟨vs, vs[i]'(by rw [← rvs_len r]; exact hi), SqL.of (hs _ _ hF), by simp⟩
  stop := fun H hs => ⟨vs, SqL.of (hs _ _ hF), by rw [enumL_len, rvs_len r]; exact Nat.le_refl _⟩
  yld := fun i H x H' F1 ρ1 S p h1 l1 hS hp y => by
    obtain ⟨T, v, rfl, hT, rfl, e1⟩ := y
    obtain ⟨pa, g1, rfl⟩ := enumL_get hp
    obtain ⟨v', hv', q1⟩ := rvs_get r g1
    have z1 := e1 vs (SqL.of (hS.sub _ _ (h1 _ _ hF)))
    rw [hv'] at z1; cases z1
    obtain ⟨s1, x1⟩ := hS.newX hT (.tup [.int (i : Nat), v])
    refine ⟨_, x1, s1, ?_⟩
    unfold rv
    exact ⟨T, _, rfl, .inl (.inl upd_same), by unfold rvs; exact ⟨_, _, rfl, by unfold rv; simp, by unfold rvs; exact ⟨_, _, rfl, rv_ext x1 _ _ (rv_mono h1 l1 _ _ q1), by unfold rvs; rfl⟩⟩⟩
/-- lists, or tuples, by pairs of the same kind -/
def pairE (x y : Env → Store → R PV) : Env → Store → R (List PV) := fun e S => (x e S).bind fun p S => (y e S).bind fun q S => match p, q with
  | .lst xs, .lst ys => if xs.length == ys.length then .ok (zipL xs ys) S else .bad
  | .tup xs, .tup ys => if xs.length == ys.length then .ok (zipL xs ys) S else .bad
  | _, _ => .bad
def enumE (x : Env → Store → R PV) : Env → Store → R (List PV) := fun e S => (x e S).bind fun p S => match p with
  | .lst xs => .ok (enumL 0 xs) S
  | _ => .bad
theorem si_enum {a : Expr} {p tpos : Pos} {elts : List Expr} {kk : Nat} {x : Env → Store → R PV} (hK : X.K = G.K) (hg : Gl X "enumerate") (hm : X.mg "enumerate" = none) (hn : nostar a = true) (ha : PE X a (tE G W x)) :
    PI X (.Tuple elts kk tpos) (.Call (.Name "enumerate" p) [a] [] pos) (tI G W (enumE x)) := by
  refine ⟨fun pins s σ H R I ⟨F, ρ, e, S, hS, hE, hP⟩ => (pi_enum hg hm (sl_cons hn ha sl_nil) (star_no hn)).run pins s σ H R I ⟨F, ρ, e, S, hS, hE, ?_⟩⟩
  unfold enumE at hP
  unfold consL
  cases hx : x e S with
  | bad => rw [hx] at hP; exact hP.elim
  | exc z S1 => rw [hx] at hP; exact hP
  | ok q S1 =>
    rw [hx] at hP
    simp only [bind_ok] at hP ⊢
    intro F1 ρ1 H1 vs x1 hS1 q1
    obtain ⟨v, r, rfl, q2, q3⟩ := rvs_cons q1
    have e3 := rvs_nil q3
    subst e3
    cases q with
    | lst xs =>
      unfold rv at q2
      obtain ⟨b, vs, rfl, z, rr⟩ := q2
      exact ⟨b, vs, rfl, SqL.of (hS1.sub _ _ z), by rw [hK]; exact hP F1 ρ1 H1 _ x1 hS1 (wlk_enum z rr)⟩
    | _ => exact (show False from hP).elim
theorem si_zip {a b : Expr} {p tpos : Pos} {elts : List Expr} {kk : Nat} {x y : Env → Store → R PV} (hK : X.K = G.K) (hg : Gl X "zip") (hm : X.mg "zip" = none) (hn : nostar a = true) (hn2 : nostar b = true) (ha : PE X a (tE G W x)) (hb : PE X b (tE G W y)) :
    PI X (.Tuple elts kk tpos) (.Call (.Name "zip" p) [a, b] [] pos) (tI G W (pairE x y)) := by
  refine ⟨fun pins s σ H R I ⟨F, ρ, e, S, hS, hE, hP⟩ => (RZ.pi_zipA hg hm (sl_cons hn ha (sl_cons hn2 hb sl_nil)) (star_no hn) (star_any_false (by rw [List.all_cons, hn2]; rfl))).run pins s σ H R I ⟨F, ρ, e, S, hS, hE, ?_⟩⟩
  unfold pairE at hP
  unfold consL
  cases hx : x e S with
  | bad => rw [hx] at hP; exact hP.elim
  | exc z S1 => rw [hx] at hP; exact hP
  | ok q S1 =>
    rw [hx] at hP
    simp only [bind_ok] at hP ⊢
    cases hy : y e S1 with
    | bad => rw [hy] at hP; exact hP.elim
    | exc z S2 => rw [hy] at hP; exact hP
    | ok q' S2 =>
      rw [hy] at hP
      simp only [bind_ok] at hP ⊢
      intro F1 ρ1 H1 vs x1 hS1 q1
      obtain ⟨v, r, rfl, q2, q3⟩ := rvs_cons q1
      obtain ⟨v', r', rfl, q4, q5⟩ := rvs_cons q3
      have e3 := rvs_nil q5
      subst e3
      cases q with
      | lst xs =>
        cases q' with
        | lst ys =>
          dsimp only at hP
          by_cases hl : (xs.length == ys.length) = true
          · rw [if_pos hl] at hP
            unfold rv at q2 q4
            obtain ⟨c, vs, rfl, z, rr⟩ := q2
            obtain ⟨d, ws, rfl, z', rr'⟩ := q4
            exact ⟨c, d, vs, ws, rfl, .inl ⟨SqL.of (hS1.sub _ _ z), SqL.of (hS1.sub _ _ z'), by rw [hK]; exact hP F1 ρ1 H1 _ x1 hS1 (wlk_zipL z z' rr rr' (by simpa using hl))⟩⟩
          · rw [if_neg hl] at hP; exact hP.elim
        | _ => exact (show False from hP).elim
      | tup xs =>
        cases q' with
        | tup ys =>
          dsimp only at hP
          by_cases hl : (xs.length == ys.length) = true
          · rw [if_pos hl] at hP
            unfold rv at q2 q4
            obtain ⟨c, vs, rfl, z, rr⟩ := q2
            obtain ⟨d, ws, rfl, z', rr'⟩ := q4
            exact ⟨c, d, vs, ws, rfl, .inr ⟨by rw [hK]; exact sqT_mono hS1.sub z, by rw [hK]; exact sqT_mono hS1.sub z', by rw [hK]; exact hP F1 ρ1 H1 _ x1 hS1 (wlk_zipT z z' rr rr' (by simpa using hl))⟩⟩
          · rw [if_neg hl] at hP; exact hP.elim
        | _ => exact (show False from hP).elim
      | _ => exact (show False from hP).elim
/-! ### class methods -/
structure CmOk (G : Rt) (fa : Nat → Addr) (c n f : Nat) : Prop where
  ex : ∃ mc p, ClX.CRead G.K (G.clsA c) mc ∧ ClX.CMet G.K (G.clsA c) mc (G.nm n) p (fa f)
theorem se_cmeth {o a : Expr} {r : List Expr} {c n f : Nat} {call : Calls} {l : Env → Store → R (List PV)} {apos : Pos} {pl : Sem Bool} (hK : X.K = G.K) (cm : CmOk G fa c n f)
    (Fn : ∀ f, FnG X.prog X.w X.K X.mg X.base k (fa f) (spC G (call f))) (hr : Room k X.A) (hgd : X.A.guards = some []) (ho : PE X o (tC (.ref (G.clsA c)))) (hst : (a :: r).all nostar = true) (hl : PA X (a :: r) (tL G W l))
    (ht : eval (.Call (.Attribute o (G.nm n) apos) (a :: r) [] pos) X.env = (do
      let ov ← eval o X.env
      standAt apos.atName
      let (f, first) ← holding [ov] (getMethod ov (G.nm n) pl)
      callWith pos f first (backTo pos (starEach (a :: r) X.env)) (backToKw pos (keywordEach [] X.env)))) :
    PE X (.Call (.Attribute o (G.nm n) apos) (a :: r) [] pos) (tE G W fun e S => (l e S).bind fun ps S => call f (.obj c :: ps) S) := by
  refine ⟨fun pins s σ H Q I ⟨F, ρ, e, S, hS, hE, hP⟩ => ?_⟩
  obtain ⟨mc, p, rd, cm⟩ := cm.ex
  rw [← hK] at rd cm
  have hst' := Bool.and_eq_true_iff.mp (List.all_cons ▸ hst)
  refine PySem.W.methodCall_KW (pl := pl) (thn (ho.run pins s σ H (fun x H1 => x = .ref (G.clsA c) ∧ H1 = H) I ⟨rfl, rfl⟩) fun u s1 ⟨v, H1, I1, r1, ev, eh⟩ => ?_) ht
  subst ev; subst eh
  obtain rfl : u = Value.ref (G.clsA c) := r1
  refine ClX.getmethcm_ok I1 rd cm fun s2 I2 => ?_
  refine ClX.callwith_cm I2 (ClX.base_none I1 (Nat.le_refl _)) cm.fi (stepL hl I2 hS hE hP pos fun ps S1 F1 ρ1 H1 vs us s3 I3 r3 hS1 x1 hE1 q1 hP1 => ⟨⟨ClX.pin_at I3, I3.kIn⟩, ?_⟩) (star_no hst'.1) (star_any_false hst'.2)
  have z := wpAny_call (PySem.W.method_call (ClX.pin_at I3) (run_at (E' := X.xe) (Fn f) hr hgd rfl I3 (us := .ref (G.clsA c) :: us) (vs := .ref (G.clsA c) :: vs) (.cons rfl r3) (Q := Q) (E := fun cls d H' => W cls d σ H') ⟨F1, ρ1, S1, _, hS1, by unfold rvs; exact ⟨_, _, rfl, by unfold rv; rfl, q1⟩, hP1⟩))
  exact thn z fun _ _ y => ClX.unpinE y
end
end Ev
set_option Elab.async false
set_option linter.all false
set_option maxRecDepth 100000
set_option maxHeartbeats 2000000
/-! E13e: enumerate over tuples. -/
namespace Ev
open PySem L2
open PyProof.Rows hiding St

section
variable {Pg : Program} {wd : World} {Ar : Around} {Ex : Value → Shared → Prop} {st : Shared}
def titO (t : Addr) : Obj := { cls := .type "tuple_iterator", data := .fields #[.ref t, .int 0 0] }
def enuO (i : Addr) : Obj := { cls := .type "enumerate", data := .fields #[.none, .bool false, .ref i, rawInt 0, .none, .none] }
theorem enumT_meets (t : Addr) (its : Array Value) (m : Nat) (dc : Option Addr) (sls : Array (Option Value)) :
    Meets (Builtin.«enumerate.__new__» ⟨[.type "enumerate", .ref t], []⟩) (fun _ Rr s0 => s0.heap.get? t = some { cls := .type "tuple", dict := dc, data := .seq its m, slots := sls } ∧
      Rr (.ok (.ret (.ref (s0.heap.push (titO t)).objs.size))) { s0 with heap := (s0.heap.push (titO t)).push (enuO s0.heap.objs.size) }) := by
  refine .of_wp fun pg wl ar rr s0 hy => ?_
  obtain ⟨hh, gg, dd, kk, oo⟩ := s0
  obtain ⟨h1, h2⟩ := hy
  have hsub := sub_enumerate
  have ht : Heap.IsTuple (Shared.heap ⟨hh, gg, dd, kk, oo⟩) t its := ⟨_, h1, rfl, m, rfl⟩
  wp_walk using AutoSeq1.wpAny_loadPart' h1
  refine wpAny_stack_any fun z => wpAny_pure ?_
  split
  · rename_i c _ _ _ _ _
    cases (c == Value.type "enumerate")
    all_goals
      wp_walk using AutoSeq1.wpAny_loadPart' h1, wpAny_pyIter_tuple ht
      exact ⟨_, rfl, h2⟩
  · wp_walk using AutoSeq1.wpAny_loadPart' h1, wpAny_pyIter_tuple ht
    exact ⟨_, rfl, h2⟩
theorem call_enumT {t : Addr} {its : Array Value} {Q : Value → Shared → Prop} (ht : st.heap.IsTuple t its)
    (k : ∀ h2, IsEnum h2 (st.heap.objs.size + 1) st.heap.objs.size 0 .none → h2.IsTupleIter st.heap.objs.size t 0 → (∀ b u, st.heap.get? b = some u → h2.get? b = some u) → Q (.ref (st.heap.objs.size + 1)) { st with heap := h2 }) :
    wpAny (model Pg wd) Ar (PySem.call (.type "enumerate") [.ref t]) Q Ex st := by
  obtain ⟨⟨oc, odc, odt, osl⟩, e1, e2, m, e3⟩ := ht
  obtain rfl : oc = .type "tuple" := e2
  obtain rfl : odt = .seq its m := e3
  refine callType_new PySem.F.called_enumerate (by decide) (PySem.F.typeCall_enumerate_1 _) (PySem.F.newCall_enumerate_1 _) (fun z => PySem.F.args_object_init_2 z _) PySem.F.entry_enumerate_new (enumT_meets t its m odc osl) ⟨e1, ?_⟩
  have sz : (st.heap.push (titO t)).objs.size = st.heap.objs.size + 1 := Heap.size_push ..
  show _ ∧ _
  rw [sz]
  have en : IsEnum ((st.heap.push (titO t)).push (enuO st.heap.objs.size)) (st.heap.objs.size + 1) st.heap.objs.size 0 .none := by
    have z := Heap.get?_push_size (st.heap.push (titO t)) (o := enuO st.heap.objs.size) rfl
    rw [sz] at z
    exact z
  refine ⟨⟨_, en, rfl⟩, k _ en ⟨_, Heap.get?_push_of_some _ (Heap.get?_push_size _ rfl), rfl, rfl⟩ fun b u z => ?_⟩
  exact Heap.get?_push_of_some _ (Heap.get?_push_of_some _ z)
end
/-- the tuple at a by turns, the items in new pairs with their numbers -/
def IteT (K : PySem.W.Frag) (a : Addr) : It where
  go := fun i H => ∃ (xs : List V) (x : V), SqT K H a xs ∧ xs[i]? = some x
  yld := fun i H v H' => ∃ T x, v = .ref T ∧ H T = none ∧ H' = upd H T (.tup [.int (i : Nat), x]) ∧ ∀ xs, SqT K H a xs → xs[i]? = some x
  stop := fun i H => ∃ xs : List V, SqT K H a xs ∧ i = xs.length
theorem tup_apart {h : Heap} {a b : Addr} {its : Array Value} {n : String} {vs : Array Value} (ht : h.IsTuple a its) (hb : ∃ o, h.get? b = some o ∧ o.cls = .type n ∧ o.data = .fields vs) : a ≠ b := by
  rintro rfl
  obtain ⟨o, e1, e2, m, e3⟩ := ht
  obtain ⟨u, f1, f2, f3⟩ := hb
  rw [e1] at f1
  cases f1
  rw [e3] at f3
  cases f3
theorem turn_enumT {Pg : Program} {wd : World} {K : PySem.W.Frag} {elts : List Expr} {kk : Nat} {tpos : Pos} (a e it : Addr) :
    Turn Pg wd K (.Tuple elts kk tpos) (IteT K a) [e, it] e (fun i h => (∃ old, IsEnum h e it ((i : Nat) : Int) old) ∧ h.IsTupleIter it a i ∧ e ≠ it) where
  mem := List.mem_cons_self
  obj := fun i h z b hb => by
    obtain ⟨⟨old, he⟩, ⟨o, h1, h2, h3⟩, _⟩ := z
    rcases List.mem_cons.mp hb with q | q
    · rw [q]; exact ⟨_, he, fun v y => nomatch y⟩
    · rw [List.mem_singleton.mp q]; exact ⟨o, h1, fun v y => by rw [h3] at y; cases y⟩
  keep := fun i h h' z k => by
    obtain ⟨⟨old, he⟩, hi, hne⟩ := z
    obtain ⟨o, h1, h2⟩ := hi
    exact ⟨⟨old, k e (by simp) _ he⟩, ⟨o, k it (by simp) o h1, h2⟩, hne⟩
  item := by
    intro X e1 e2 e3 hc i pins s σ H Ex I hf z hg
    subst e1 e2 e3
    obtain ⟨⟨old, he⟩, hit, hne⟩ := z
    obtain ⟨xs, x, hq, hx⟩ := hg
    obtain ⟨its, rvs', pt, _⟩ := I.tuple hq
    obtain ⟨u, hu, ru⟩ := rvs'.get hx
    have hae : a ≠ e := tup_apart pt ⟨_, he, rfl, rfl⟩
    have hai : a ≠ it := by obtain ⟨o, h1, h2, h3⟩ := hit; exact tup_apart pt ⟨o, h1, h2, h3⟩
    have le : e < s.heap.objs.size := Heap.lt_size he
    have li : it < s.heap.objs.size := by obtain ⟨_, q, _⟩ := hit; exact Heap.lt_size q
    have hlen : i < its.toArray.size := by
      have : i < its.length := (List.getElem?_eq_some_iff.mp hu).1
      simpa using this
    have D := Draws.tuple (prog := X.prog) (w := X.w) (A := X.A.in1) (I.ok.hd hc) it a hai its.toArray
    refine wpAny_pyNext_enum_itemD D he ⟨hit, pt⟩ hlen hne (by simp [hne, Ne.symm hae]) fun u' h1 tk hP ho hst hT hsz hk => ?_
    obtain rfl : u' = u := by
      have hP : its.toArray[i]? = some u' := hP
      have : its[i]? = some u' := by simpa using hP
      rw [hu] at this
      exact (Option.some.inj this).symm
    refine ⟨_, rfl, wpAny_letOwnedTupleGo_enum (s := { s with heap := h1, toks := tk + 1 }) ho fun h2 he2 sb => ?_⟩
    have T2 : h2.get? s.heap.objs.size = some { cls := .type "tuple", data := .seq #[.int i tk, u'] } := (sb.2 _ (Nat.ne_of_gt le)).trans hT
    have new : ObjOk X.prog X.w (upd H s.heap.objs.size (.tup [.int (i : Nat), x])) h2 s.heap.objs.size (.tup [.int (i : Nat), x]) := by
      refine ⟨?_, [.int i tk, u'], .cons ⟨_, rfl⟩ (.cons ru .nil), ⟨_, T2, rfl, _, rfl⟩⟩
      show 2 ≤ sizeLine
      decide
    have I1 : Inv X pins σ (upd H s.heap.objs.size (.tup [.int (i : Nat), x])) { s with heap := h2, toks := tk + 1 } := by
      refine I.turnedNew (ch := [e, it]) (fun b ob hb q => ?_) hf (Nat.le_refl _) new
      have b1 : b ≠ e := fun z => hb (by simp [z])
      have b2 : b ≠ it := fun z => hb (by simp [z])
      exact (sb.2 b b1).trans (hk b ob b1 b2 q)
    refine ⟨.ref s.heap.objs.size, _, I1, rfl, ⟨_, x, rfl, I.hok.fresh (Nat.le_refl _), rfl, fun ys hy => by rw [I.tuple_inj hy hq]; exact hx⟩, ⟨⟨u', ?_⟩, ?_, hne⟩, fun b hb => ?_⟩
    · rw [show ((i + 1 : Nat) : Int) = (i : Int) + 1 from by omega]
      exact he2
    · obtain ⟨o, q1, q2⟩ := hst.1
      exact ⟨o, (sb.2 it (Ne.symm hne)).trans q1, q2⟩
    · have lb : b < s.heap.objs.size := by
        rcases List.mem_cons.mp hb with q | q
        · rw [q]; exact le
        · rw [List.mem_singleton.mp q]; exact li
      rw [upd_ne (Nat.ne_of_lt lb)]
      exact (hf b hb).1
  done := by
    intro X e1 e2 e3 hc i pins s σ H Ex I hf z hg
    subst e1 e2 e3
    obtain ⟨⟨old, he⟩, hit, hne⟩ := z
    obtain ⟨xs, hq, hx⟩ := hg
    obtain ⟨its, rvs', pt, _⟩ := I.tuple hq
    obtain ⟨f0, f1, f2, f3, f4, f5⟩ := hf it (by simp)
    have hai : a ≠ it := by obtain ⟨o, h1, h2, h3⟩ := hit; exact tup_apart pt ⟨o, h1, h2, h3⟩
    have D := Draws.tuple (prog := X.prog) (w := X.w) (A := X.A.in1) (I.ok.hd hc) it a hai its.toArray
    have en : i = its.toArray.size := by rw [hx, List.size_toArray, rvs'.length]
    subst en
    exact wpAny_pyNext_enum_endD D he ⟨hit, pt⟩ fun h1 eb => ⟨rfl, I.turned (t' := s.toks) (fun b o hb q => eb b o hb q) f0 f1 f3 f4 f5⟩
  self := fun A i s Q E z h => by
    obtain ⟨⟨_, he⟩, _⟩ := z
    exact wpAny_pyIter_enum he h
def iEnumT (K : PySem.W.Frag) (ta : TA) : TI := fun σ H R => ta σ H fun vs H1 => ∃ a xs, vs = [.ref a] ∧ ((SqL K H1 a xs ∧ R (Ite K a) H1) ∨ (SqT K H1 a xs ∧ R (IteT K a) H1))
theorem pi_enumT {X : Cx} {e : Expr} {ta : TA} {p pos tpos : Pos} {elts : List Expr} {kk : Nat} (hg : Gl X "enumerate") (hm : X.mg "enumerate" = none) (ha : PA X [e] ta) (hs : starEach [e] X.env = [(false, eval e X.env)]) :
    PI X (.Tuple elts kk tpos) (.Call (.Name "enumerate" p) [e] [] pos) (iEnumT X.K ta) := by
  refine ⟨fun pins s σ H R I h => ?_⟩
  refine Call_ (ld_blt I hg hm boot_enumerate ?_)
  refine PyProof.Rows.callWith_type1 (thn (ha.run pos pins s σ H _ I h) fun us s1 ⟨vs, H1, I1, r1, q1⟩ => ?_) hs rfl
  obtain ⟨a, xs, rfl, q1⟩ := q1
  obtain ⟨u, rfl, r⟩ := vals1 r1
  obtain rfl : u = Value.ref a := r
  have fps : ∀ b ∈ [s1.heap.objs.size + 1, s1.heap.objs.size], FpOk X pins H1 b := fun b hb => by
    have le : s1.heap.objs.size ≤ b := by
      rcases List.mem_cons.mp hb with z | z
      · rw [z]; exact Nat.le_succ _
      · rw [List.mem_singleton.mp z]; exact Nat.le_refl _
    exact I1.fpOk le (I1.hok.fresh le)
  rcases q1 with ⟨hq, q⟩ | ⟨hq, q⟩
  · obtain ⟨its, rv1, p1, _⟩ := I1.list hq
    refine call_enumerate_list p1.isList fun h2 he hit _ hk => wpAny_pyIter_enum he ?_
    exact ⟨s1.heap.objs.size + 1, [s1.heap.objs.size + 1, s1.heap.objs.size], _, _, H1, rfl, I1.kept (t' := s1.toks) hk, turn_enum a (s1.heap.objs.size + 1) s1.heap.objs.size, ⟨⟨.none, he⟩, hit, Nat.succ_ne_self _⟩, fps, q⟩
  · obtain ⟨its, rv1, p1, _⟩ := I1.tuple hq
    refine call_enumT p1 fun h2 he hit hk => wpAny_pyIter_enum he ?_
    exact ⟨s1.heap.objs.size + 1, [s1.heap.objs.size + 1, s1.heap.objs.size], _, _, H1, rfl, I1.kept (t' := s1.toks) hk, turn_enumT a (s1.heap.objs.size + 1) s1.heap.objs.size, ⟨⟨.none, he⟩, hit, Nat.succ_ne_self _⟩, fps, q⟩
section
variable {G : Rt} {X : Cx} {W : WX} {F : Hp} {ρ : List Addr}
theorem wlk_enumT {a : Addr} {xs : List PV} {vs : List V} (hF : SqT G.K F a vs) (r : rvs G F ρ xs vs) : Wlk G (IteT G.K a) (enumL 0 xs) F ρ where
  go := fun i H hi hs => by
    rw [enumL_len] at hi
    exact ⟨vs, vs[i]'(by rw [← rvs_len r]; exact hi), sqT_mono hs hF, by simp⟩
  stop := fun H hs => ⟨vs, sqT_mono hs hF, by rw [enumL_len, rvs_len r]⟩
  yld := fun i H x H' F1 ρ1 S p h1 l1 hS hp y => by
    obtain ⟨T, v, rfl, hT, rfl, e1⟩ := y
    obtain ⟨pa, g1, rfl⟩ := enumL_get hp
    obtain ⟨v', hv', q1⟩ := rvs_get r g1
    have z1 := e1 vs (sqT_mono hS.sub (sqT_mono h1 hF))
    rw [hv'] at z1; cases z1
    obtain ⟨s1, x1⟩ := hS.newX hT (.tup [.int (i : Nat), v])
    refine ⟨_, x1, s1, ?_⟩
    unfold rv
    exact ⟨T, _, rfl, .inl (.inl upd_same), by unfold rvs; exact ⟨_, _, rfl, by unfold rv; simp, by unfold rvs; exact ⟨_, _, rfl, rv_ext x1 _ _ (rv_mono h1 l1 _ _ q1), by unfold rvs; rfl⟩⟩⟩
def enumE2 (x : Env → Store → R PV) : Env → Store → R (List PV) := fun e S => (x e S).bind fun p S => match p with
  | .lst xs => .ok (enumL 0 xs) S
  | .tup xs => .ok (enumL 0 xs) S
  | _ => .bad
theorem si_enum2 {a : Expr} {p tpos pos : Pos} {elts : List Expr} {kk : Nat} {x : Env → Store → R PV} (hK : X.K = G.K) (hg : Gl X "enumerate") (hm : X.mg "enumerate" = none) (hn : nostar a = true) (ha : PE X a (tE G W x)) :
    PI X (.Tuple elts kk tpos) (.Call (.Name "enumerate" p) [a] [] pos) (tI G W (enumE2 x)) := by
  refine ⟨fun pins s σ H R I ⟨F, ρ, e, S, hS, hE, hP⟩ => (pi_enumT hg hm (sl_cons hn ha sl_nil) (star_no hn)).run pins s σ H R I ⟨F, ρ, e, S, hS, hE, ?_⟩⟩
  unfold enumE2 at hP
  unfold consL
  cases hx : x e S with
  | bad => rw [hx] at hP; exact hP.elim
  | exc z S1 => rw [hx] at hP; exact hP
  | ok q S1 =>
    rw [hx] at hP
    simp only [bind_ok] at hP ⊢
    intro F1 ρ1 H1 vs x1 hS1 q1
    obtain ⟨v, r, rfl, q2, q3⟩ := rvs_cons q1
    have e3 := rvs_nil q3
    subst e3
    cases q with
    | lst xs =>
      unfold rv at q2
      obtain ⟨b, vs, rfl, z, rr⟩ := q2
      exact ⟨b, vs, rfl, .inl ⟨SqL.of (hS1.sub _ _ z), by rw [hK]; exact hP F1 ρ1 H1 _ x1 hS1 (wlk_enum z rr)⟩⟩
    | tup xs =>
      unfold rv at q2
      obtain ⟨b, vs, rfl, z, rr⟩ := q2
      exact ⟨b, vs, rfl, .inr ⟨by rw [hK]; exact sqT_mono hS1.sub z, by rw [hK]; exact hP F1 ρ1 H1 _ x1 hS1 (wlk_enumT z rr)⟩⟩
    | _ => exact (show False from hP).elim
end
end Ev
set_option Elab.async false
set_option linter.all false
set_option maxRecDepth 100000
set_option maxHeartbeats 1000000
/-! E14: operators of the text's own classes. -/
namespace Ev
open PySem L2
open PyProof.Rows hiding St

/-- what the numbers of the operators' methods are -/
structure NmOk (G : Rt) : Prop where
  eq : G.nm nEq = "__eq__"
  len : G.nm nLen = "__len__"
  str : G.nm nStr = "__str__"
  repr : G.nm nRepr = "__repr__"
  in_ : G.nm nIn = "__contains__"
  neg : G.nm nNeg = "__neg__"
  bool : G.nm nBool = "__bool__"
  add : G.nm 8 = "__add__"
  sub : G.nm 9 = "__sub__"
  mul : G.nm 10 = "__mul__"
  or : G.nm 11 = "__or__"
  and : G.nm 12 = "__and__"
theorem NmOk.op {G : Rt} (n : NmOk G) : ∀ o : BOp, (nOp o != 13) = true → G.nm (nOp o) = PySem.dunder (opB o).info.2
  | .add, _ => n.add
  | .sub, _ => n.sub
  | .mul, _ => n.mul
  | .bor, _ => n.or
  | .band, _ => n.and
  | .fdiv, h => by cases h
  | .mod, h => by cases h
  | .pow, h => by cases h
  | .shl, h => by cases h
/-- .. and of ==, !=, isinstance -/
structure ClsEq (G : Rt) (c : Nat) : Prop where
  ne : PySem.W.findIn G.K (.ref (G.clsA c)) "__ne__" = some (some (.builtin "object.__ne__"))
  ob : PySem.W.mroIn G.K (G.clsA c) (.type "object") = some true
  fm : PySem.W.findIn G.K (.ref (G.clsA c)) "__format__" = some (some (.builtin "object.__format__"))
  nf : ∀ d kl, G.T.cls[d]? = some kl → PySem.W.notFirst G.K (G.clsA c) (.ref (G.clsA d)) = true
theorem sub_blt {K : PySem.W.Frag} {C : Addr} {T : String} {l : List Value} (h : fastBuiltinMro T = some l) (hl : l.contains (.ref C) = false) : PySem.W.notFirst K C (.type T) = true := by
  have : PySem.W.subIn K (.type T) (.ref C) = some false := by
    show (fastBuiltinMro T).map (·.contains (.ref C)) = some false
    rw [h]
    show some (l.contains (.ref C)) = some false
    rw [hl]
  unfold PySem.W.notFirst
  rw [this]
  simp
theorem nf_blt {K : PySem.W.Frag} {C : Addr} : PySem.W.notFirst K C (.type "NoneType") = true ∧ PySem.W.notFirst K C (.type "bool") = true ∧ PySem.W.notFirst K C (.type "int") = true ∧ PySem.W.notFirst K C (.type "str") = true ∧ PySem.W.notFirst K C (.type "tuple") = true ∧ PySem.W.notFirst K C (.type "list") = true :=
  ⟨sub_blt (l := [.type "NoneType", .type "object"]) (by decide +kernel) rfl, sub_blt (l := [.type "bool", .type "int", .type "object"]) (by decide +kernel) rfl, sub_blt (l := [.type "int", .type "object"]) (by decide +kernel) rfl,
    sub_blt (l := [.type "str", .type "object"]) (by decide +kernel) rfl, sub_blt (l := [.type "tuple", .type "object"]) (by decide +kernel) rfl, sub_blt (l := [.type "list", .type "object"]) (by decide +kernel) rfl⟩
theorem looks_ty {M : Model} {s : Shared} {v : Value} {T : String} (h : s.TypeIs v T) : PySem.W.Looks M s.heap (typeOf v) (.type T) := by
  cases v with
  | ref a =>
    obtain ⟨o, ho, hc⟩ := h
    exact fun A Q E s' k q => wpAny_typeOf (v := .ref a) (T := T) ⟨o, k _ _ ho, hc⟩ q
  | _ => exact PySem.W.Looks.of_pure h
section
variable {prog : Program} {w : World} {A : Around} {E : Value → Shared → Prop} {s : Shared} {K : PySem.W.Frag} {x C L f : Addr} {h₀ : Heap} {m : Str → Option Value} {ox : Obj} {od : Option Obj} {b tb : Value}
theorem entry_ne {Q : Fin → Shared → Prop} (hu : A.units < cLine) (X : K.In s.heap) (I : PySem.W.InstAt s.heap x ox C od) (hs : PySem.W.findIn K (.ref C) "__eq__" = some (some (.ref f))) (hf : PySem.W.isFn K (.ref f) = true)
    (h : wpAny (model prog w) A (call (.ref f) [.ref x, b]) (fun v s' => ∃ k, v = .bool k ∧ Q (.done (.ret (.bool (!k)))) s') E s) : wpAny (model prog w) A (Builtin.«object.__ne__» ⟨[.ref x, b], []⟩) Q E s := by
  unfold Builtin.«object.__ne__»
  repeat (first | with_reducible refine wpAny_cRoomFor hu ?_ | with_reducible refine PySem.W.ifBound_K X I hs hf (wpAny_mono h (fun v s' hv => ?_) fun _ _ e => e) | wp_step)
  obtain ⟨k, rfl, q⟩ := hv
  repeat wp_step
  exact q
theorem ifBound_objNe {args : List Value} {Q : Option Value → Shared → Prop} {M : Model} (X : K.In s.heap) (I : PySem.W.InstAt s.heap x ox C od) (hs : PySem.W.findIn K (.ref C) "__ne__" = some (some (.builtin "object.__ne__")))
    (h : wpAny M A (call (.builtin "object.__ne__") (.ref x :: args)) (fun v => Q (some v)) E s) : wpAny M A (callSpecialIfBound? (.ref x) "__ne__" args) Q E s := by
  simp only [callSpecialIfBound?, bindSpecialIfBound?]
  refine wpAny_holding (wpAny_bind (wpAny_bind (wpAny_bind (I.type.here ((PySem.W.looks_findIn X hs).here ?_)))))
  refine wpAny_bind (wpAny_askSetting (wpAny_ite ?_))
  have fin : wpAny M A (call (.builtin "object.__ne__") ([.ref x] ++ args) >>= fun v => pure (some v)) Q E s := wpAny_bind (wpAny_mono h (fun v s' h' => wpAny_pure h') fun _ _ h' => h')
  split
  · exact wpAny_bind (wpAny_of_eq (F.cmp_object.ne.bind _) (wpAny_pure (by exact fin)))
  · exact wpAny_tryCatch (wpAny_bind (wpAny_of_eq (F.cmp_object.ne.bind _) (wpAny_pure (by exact fin))))
theorem ne_own {Q : Value → Shared → Prop} (hu : A.units < cLine) (hu1 : A.in1.units < cLine) (X : K.In s.heap) (I : PySem.W.InstAt s.heap x ox C od) (hb : PySem.W.Looks (model prog w) s.heap (typeOf b) tb) (hn : PySem.W.notFirst K C tb = true)
    (hne : PySem.W.findIn K (.ref C) "__ne__" = some (some (.builtin "object.__ne__"))) (hm : PySem.W.mroIn K C (.type "object") = some true) (hs : PySem.W.findIn K (.ref C) "__eq__" = some (some (.ref f))) (hf : PySem.W.isFn K (.ref f) = true)
    (h : wpAny (model prog w) A.in1 (call (.ref f) [.ref x, b]) (fun v s' => ∃ k, v = .bool k ∧ Q (.bool (!k)) s') E s) : wpAny (model prog w) A (compareOp .NotEq (.ref x) b) Q E s := by
  have cn : wpAny (model prog w) A (call (.builtin "object.__ne__") [.ref x, b]) (fun v s' => ∃ k, v = .bool k ∧ Q (.bool k) s') E s :=
    wpAny_call (codeAny_call_builtin F.cmp_object.ne.plain F.cmpEntry_ne (PySem.W.check_slot F.cmpKind_ne F.cmpSplit_ne (I.type.andThen (PySem.W.looks_mroIn X hm)) (F.cmpArgs_ne _ _)
      (entry_ne hu1 X I hs hf (wpAny_mono h (fun v s' hv => by obtain ⟨k, e, q⟩ := hv; exact ⟨k, e, !k, rfl, q⟩) fun _ _ e => e))))
  have one : wpAny (model prog w) A (tryCompare (.ref x) "__ne__" b) (fun r s' => ∃ v, r = some v ∧ Q v s') E s := by
    unfold tryCompare
    refine wpAny_bind (ifBound_objNe X I hne (wpAny_mono cn (fun v s' hv => ?_) fun _ _ e => e))
    obtain ⟨k, rfl, q⟩ := hv
    exact wpAny_pure ⟨_, rfl, q⟩
  show wpAny _ _ (richCompare .NotEq (.ref x) b) _ _ _
  unfold richCompare
  simp only [oneThing_ref, cmpInfo_NotEq]
  refine wpAny_holding (wpAny_bind (wpAny_cRoomFor hu ?_))
  refine wpAny_bind (I.type.here (wpAny_bind (hb.here ?_)))
  split
  · rename_i q
    have e : PySem.W.subIn K tb (.ref C) = some false := by
      rcases Bool.or_eq_true_iff.mp hn with e | e
      · rw [beq_iff_eq.mp e] at q; simp at q
      · exact beq_iff_eq.mp e
    refine wpAny_bind ((PySem.W.looks_subIn X e).here ?_)
    simp only [Bool.false_eq_true, if_false]
    refine wpAny_bind (wpAny_mono one (fun r s' z => ?_) fun _ _ e => e)
    obtain ⟨v, rfl, hq⟩ := z
    exact wpAny_pure hq
  · refine wpAny_bind (wpAny_pure ?_)
    simp only [Bool.false_eq_true, if_false]
    refine wpAny_bind (wpAny_mono one (fun r s' z => ?_) fun _ _ e => e)
    obtain ⟨v, rfl, hq⟩ := z
    exact wpAny_pure hq
end
end Ev
set_option Elab.async false
set_option linter.all false
set_option maxRecDepth 100000
set_option maxHeartbeats 1000000
/-! E15: operators by the evaluator: plain data and the text's own classes. -/
namespace Ev
open PySem L2
open PyProof.Rows hiding St

section
variable {G : Rt} {X : Cx} {W : WX} {pins : List (Addr × Obj)} {σ : Slots} {H : Hp} {s : Shared} {F : Hp} {ρ : List Addr} {e : Env} {S : Store} {k : Nat} {fa : Nat → Addr} {call : Calls}
/-- an instance held by value, as the machine sees it -/
theorem ins_look {c : Nat} {fs : List PV} {v : V} {u : Value} (I : Inv X pins σ H s) (hS : SR G F ρ H S) (hv : rv G F ρ (.ins c fs) v) (r : RelV v u) : ∃ a dx vs, v = .ref a ∧ u = .ref a ∧ H a = some (.ins (G.clsA c) dx vs) ∧ ∃ ox od, PySem.W.InstAt s.heap a ox (G.clsA c) od := by
  obtain ⟨a, dx, vs, rfl, ha, hl, rr⟩ := ins_at hS hv (c := c) (fs := fs) rfl
  cases (show u = Value.ref a from r)
  obtain ⟨mA, O, _⟩ := ins_get I.hok ha
  obtain ⟨od, J, _⟩ := O.look
  exact ⟨a, dx, _, rfl, rfl, ha, _, _, J⟩
/-- a method of an instance held by value -/
theorem meth_of (hcl : ∀ c kl, G.T.cls[c]? = some kl → ClsOk G fa c kl) {c : Nat} {fs : List PV} {n : Nat} {f : Nat} (h : methF G.T (.ins c fs) n S = some f) : ∃ kl, G.T.cls[c]? = some kl ∧ ClsOk G fa c kl ∧ Meth G.K (G.clsA c) (G.nm n) (fa f) := by
  unfold methF at h
  dsimp only [insC] at h
  unfold methOf at h
  cases hk : G.T.cls[c]? with
  | none => rw [hk] at h; cases h
  | some kl =>
    rw [hk] at h
    have ok := hcl c kl hk
    exact ⟨kl, rfl, ok, (ok.met n f h).1⟩
/-- its def runs, in A -/
theorem run_meth {A : Around} {E : XK} {Q : VK} {us : List Value} {vs : List V} {ps : List PV} {n f : Nat} (Fn : ∀ f, FnG X.prog X.w X.K X.mg X.base k (fa f) (spC G (call f))) (hr : Room k A) (hg : A.guards = some []) (hA : A.frames = X.A.frames) (I : Inv X pins σ H s) (r : Vals vs us) (hS : SR G F ρ H S) (q : rvs G F ρ ps vs)
    (hP : Post G F ρ H (call f ps S) (rv G) Q E) : wpAny (model X.prog X.w) A (PySem.call (.ref (fa f)) us) (EP X pins σ Q) X.xe s :=
  wpAny_call (run_at (Fn f) hr hg hA I r (E := E) ⟨F, ρ, S, ps, hS, q, hP⟩)
theorem rvs2 {p q : PV} {v w : V} (h : rv G F ρ p v) (h2 : rv G F ρ q w) : rvs G F ρ [p, q] [v, w] := by
  unfold rvs; exact ⟨v, _, rfl, h, by unfold rvs; exact ⟨w, _, rfl, h2, by unfold rvs; rfl⟩⟩
theorem rvs1 {p : PV} {v : V} (h : rv G F ρ p v) : rvs G F ρ [p] [v] := by
  unfold rvs; exact ⟨v, _, rfl, h, by unfold rvs; rfl⟩
theorem bindO {α β γ : Type} {rel : Hp → List Addr → γ → β → Prop} {Q : β → Hp → Prop} {W : XK} {o : Option α} {h : α → Store → R γ} (hP : Post G F ρ H ((opt o S).bind h) rel Q W) : ∃ a, o = some a ∧ Post G F ρ H (h a S) rel Q W := by
  cases o with
  | none => exact hP.elim
  | some a => exact ⟨a, rfl, hP⟩
/-- both operators of a statement -/
structure Ops (G : Rt) (X : Cx) (k : Nat) (fa : Nat → Addr) (call : Calls) : Prop where
  K : X.K = G.K
  nm : NmOk G
  cls : ∀ c kl, G.T.cls[c]? = some kl → ClsOk G fa c kl
  eqs : ∀ c kl, G.T.cls[c]? = some kl → ClsEq G c
  fn : ∀ f, FnG X.prog X.w X.K X.mg X.base k (fa f) (spC G (call f))
  room : Room (k + 1) X.A
  gd : X.A.guards = some []
theorem op_bin {o : BOp} (O : Ops G X k fa call) : Op2 G X W (binaryOp (opB o)) (binE G.T call o) := by
  intro pins s σ H x y v u Q F ρ S p q I r1 r2 hS h1 h2 hP
  have plain : Post G F ρ H ((opt (thaw S p) S).bind fun p S => (opt (thaw S q) S).bind fun q S => opt (binD o p q S) S) (rv G) Q (fun cls d H' => W cls d σ H') → wpAny (model X.prog X.w) X.A (binaryOp (opB o) v u) (EP X pins σ Q) X.xe s := fun hP => by
    obtain ⟨p', e1, hP⟩ := bindO hP
    obtain ⟨q', e2, hP⟩ := bindO hP
    exact bin_data O.K I r1 r2 hS (thaw_ok hS h1 e1) (thaw_ok hS h2 e2) hP
  unfold binE at hP
  split at hP
  · rename_i c fs
    split at hP
    · rename_i d gs
      by_cases hc : ((d == c) && (nOp o != 13)) = true
      · rw [if_pos hc] at hP
        obtain ⟨hc1, hc2⟩ := Bool.and_eq_true_iff.mp hc
        have hc1 : d = c := by simpa using hc1
        subst hc1
        unfold callM at hP
        obtain ⟨f, hf, hP⟩ := bindO hP
        obtain ⟨kl, hk, ok, M⟩ := meth_of O.cls hf
        obtain ⟨a, dx, vs, rfl, rfl, ha, ox, od, J⟩ := ins_look I hS h1 r1
        obtain ⟨b, dy, ws, rfl, rfl, hb, oy, od', J'⟩ := ins_look I hS h2 r2
        obtain ⟨m, hF⟩ := I.fr
        have hat := M.at_
        rw [O.nm.op o hc2] at hat
        refine PySem.W.binop_K hF I.ok.mod.kin J J'.type (by rw [O.K]; exact ok.sf) (by rw [O.K]; exact hat) (by rw [O.K]; exact M.fn) ?_
        refine wpAny_mono (run_meth (n := nOp o) (us := [.ref a, .ref b]) (vs := [.ref a, .ref b]) O.fn (O.room.mono (Nat.le_succ k)) O.gd rfl I (.cons rfl (.cons rfl .nil)) hS (rvs2 h1 h2) hP) (fun w s' z => ?_) fun _ _ x => x
        obtain ⟨z', H', I', rz, qz⟩ := z
        exact SlX.cmpback rz ⟨z', H', I', rz, qz⟩
      · rw [if_neg hc] at hP; exact hP.elim
    · exact hP.elim
  · exact plain hP
theorem frames_in1 {A : Around} : A.in1.frames = A.frames := rfl
theorem op_neg (O : Ops G X k fa call) : Op1 G X W (unaryOp .USub) (negE G.T call) := by
  intro pins s σ H x v Q F ρ S p I r hS h1 hP
  unfold negE at hP
  split at hP
  · rename_i c fs
    unfold callM at hP
    obtain ⟨f, hf, hP⟩ := bindO hP
    obtain ⟨kl, hk, ok, M⟩ := meth_of O.cls hf
    obtain ⟨a, dx, vs, rfl, rfl, ha, ox, od, J⟩ := ins_look I hS h1 r
    obtain ⟨m, hF⟩ := I.fr
    have hat := M.at_
    rw [O.nm.neg] at hat
    refine PySem.W.ksp_neg hF I.ok.mod.kin J (by rw [O.K]; exact hat) (by rw [O.K]; exact M.fn) ?_
    exact run_meth (n := nNeg) (us := [.ref a]) (vs := [.ref a]) O.fn (O.room.mono (Nat.le_succ k)) O.gd rfl I (.cons rfl .nil) hS (rvs1 h1) hP
  · rename_i i
    have e1 := rv_int h1
    exact un_neg pins s σ H x v Q I r ⟨i, e1, q_int hP hS⟩
  · exact hP.elim
/-- what stands behind ==, as the machine sees it -/
theorem rhs_look {q : PV} {y : V} {u : Value} {c : Nat} (hK : X.K = G.K) (hcl : ∀ c kl, G.T.cls[c]? = some kl → ClsOk G fa c kl) (ce : ClsEq G c) (I : Inv X pins σ H s) (hS : SR G F ρ H S) (r : RelV y u) (hv : rv G F ρ q y) (h : eqRhs G.T q = true) :
    ∃ tb, PySem.W.Looks (model X.prog X.w) s.heap (typeOf u) tb ∧ PySem.W.notFirst G.K (G.clsA c) tb = true := by
  obtain ⟨n1, n2, n3, n4, n5, n6⟩ := nf_blt (K := G.K) (C := G.clsA c)
  cases q with
  | non =>
    unfold rv at hv; subst hv
    cases (show u = Value.none from r)
    exact ⟨_, looks_ty (show s.TypeIs .none "NoneType" from rfl), n1⟩
  | bl b =>
    have e := rv_bl hv; subst e
    cases (show u = Value.bool b from r)
    exact ⟨_, looks_ty (show s.TypeIs (.bool b) "bool" from rfl), n2⟩
  | int i =>
    have e := rv_int hv; subst e
    obtain ⟨t, rfl⟩ := r
    exact ⟨_, looks_ty (show s.TypeIs (.int i t) "int" from rfl), n3⟩
  | str x =>
    obtain ⟨e, _⟩ := rv_str hv; subst e
    obtain ⟨t, rfl⟩ := r
    exact ⟨_, looks_ty (show s.TypeIs (.str (sT x) t) "str" from rfl), n4⟩
  | tup xs =>
    unfold rv at hv
    obtain ⟨a, vs, rfl, z, rr⟩ := hv
    cases (show u = Value.ref a from r)
    obtain ⟨its, _, ⟨o, ho, hc, n, hd⟩, _⟩ := I.tuple (by rw [hK]; exact sqT_mono hS.sub z)
    exact ⟨_, looks_ty (v := .ref a) (T := "tuple") ⟨o, ho, hc⟩, n5⟩
  | lst xs =>
    unfold rv at hv
    obtain ⟨a, vs, rfl, z, rr⟩ := hv
    cases (show u = Value.ref a from r)
    obtain ⟨its, _, p, _⟩ := I.list (SqL.of (hS.sub _ _ z))
    obtain ⟨o, ho, hc, n, hd⟩ := p.isList
    exact ⟨_, looks_ty (v := .ref a) (T := "list") ⟨o, ho, hc⟩, n6⟩
  | ins d gs =>
    obtain ⟨kl, hk⟩ := Option.isSome_iff_exists.mp (show (G.T.cls[d]?).isSome = true from h)
    obtain ⟨b, dy, ws, rfl, rfl, hb, oy, od', J'⟩ := ins_look I hS hv r
    exact ⟨_, J'.type, ce.nf d kl hk⟩
  | dct ks xs => cases h
  | cell i => cases h
  | obj n => cases h
  | ex c xs => cases h
theorem boolP {r : R PV} {neg : Bool} {Q : VK} {W : XK} (hP : Post G F ρ H (boolE r neg) (rv G) Q W) : Post G F ρ H r (rv G) (fun v H' => ∃ b, v = .bl b ∧ Q (.bl (b != neg)) H') W := by
  unfold boolE at hP
  cases r with
  | bad => exact hP.elim
  | exc z S1 => exact hP
  | ok p S1 =>
    intro F1 ρ1 H1 v x1 hS1 q1
    cases p with
    | bl b =>
      have e := rv_bl q1
      exact ⟨b, e, hP F1 ρ1 H1 _ x1 hS1 (by unfold rv; rfl)⟩
    | _ => exact (show False from hP).elim
theorem op_cmp {o : COp} (O : Ops G X k fa call) : Op2 G X W (compareOp (opC o)) (cmpE G.T call o) := by
  intro pins s σ H x y v u Q F ρ S p q I r1 r2 hS h1 h2 hP
  have plain : Post G F ρ H ((opt (cmpD o p q S) S).bind fun b S => .ok (.bl b) S) (rv G) Q (fun cls d H' => W cls d σ H') → wpAny (model X.prog X.w) X.A (compareOp (opC o) v u) (EP X pins σ Q) X.xe s := fun hP => cmp_data O.room O.K I r1 r2 hS h1 h2 hP
  unfold cmpE at hP
  split at hP
  · rename_i c fs
    by_cases hq : eqRhs G.T q = true
    · rw [if_pos hq] at hP
      have hP := boolP hP
      unfold callM at hP
      obtain ⟨f, hf, hP⟩ := bindO hP
      obtain ⟨kl, hk, ok, M⟩ := meth_of O.cls hf
      obtain ⟨a, dx, vs, rfl, rfl, ha, ox, od, J⟩ := ins_look I hS h1 r1
      obtain ⟨tb, hb, hn⟩ := rhs_look O.K O.cls (O.eqs c kl hk) I hS r2 h2 hq
      obtain ⟨m, hF⟩ := I.fr
      have hat := M.at_
      rw [O.nm.eq] at hat
      show wpAny (model X.prog X.w) X.A (richCompare .Eq (.ref a) u) _ _ _
      refine PySem.W.cmp_K (op := .Eq) O.room.units0 hF I.ok.mod.kin J hb (by rw [O.K]; exact hn) (by rw [O.K]; exact hat) (by rw [O.K]; exact M.fn) ?_
      refine wpAny_mono (run_meth (n := nEq) (us := [.ref a, u]) (vs := [.ref a, y]) O.fn (O.room.mono (Nat.le_succ k)) O.gd rfl I (.cons rfl (.cons r2 .nil)) hS (rvs2 h1 h2) hP) (fun w s' z => ?_) fun _ _ x => x
      obtain ⟨z', H', I', rz, b, ez, qz⟩ := z
      subst ez
      cases (show w = Value.bool b from rz)
      exact ⟨.bl b, H', I', rfl, by simpa using qz⟩
    · rw [if_neg hq] at hP; exact hP.elim
  · rename_i c fs
    by_cases hq : eqRhs G.T q = true
    · rw [if_pos hq] at hP
      have hP := boolP hP
      unfold callM at hP
      obtain ⟨f, hf, hP⟩ := bindO hP
      obtain ⟨kl, hk, ok, M⟩ := meth_of O.cls hf
      obtain ⟨a, dx, vs, rfl, rfl, ha, ox, od, J⟩ := ins_look I hS h1 r1
      obtain ⟨tb, hb, hn⟩ := rhs_look O.K O.cls (O.eqs c kl hk) I hS r2 h2 hq
      have hat := M.at_
      rw [O.nm.eq] at hat
      have ce := O.eqs c kl hk
      refine ne_own O.room.units0 O.room.in1.units0 I.kIn J hb (by rw [O.K]; exact hn) (by rw [O.K]; exact ce.ne) (by rw [O.K]; exact ce.ob) (by rw [O.K]; exact hat) (by rw [O.K]; exact M.fn) ?_
      refine wpAny_mono (run_meth (n := nEq) (us := [.ref a, u]) (vs := [.ref a, y]) O.fn O.room.in1 O.gd frames_in1 I (.cons rfl (.cons r2 .nil)) hS (rvs2 h1 h2) hP) (fun w s' z => ?_) fun _ _ x => x
      obtain ⟨z', H', I', rz, b, ez, qz⟩ := z
      subst ez
      cases (show w = Value.bool b from rz)
      exact ⟨b, rfl, .bl (!b), H', I', rfl, by simpa using qz⟩
    · rw [if_neg hq] at hP; exact hP.elim
  · rename_i c fs
    have hP := boolP hP
    unfold callM at hP
    obtain ⟨f, hf, hP⟩ := bindO hP
    obtain ⟨kl, hk, ok, M⟩ := meth_of O.cls hf
    obtain ⟨a, dx, vs, rfl, rfl, ha, ox, od, J⟩ := ins_look I hS h2 r2
    obtain ⟨m, hF⟩ := I.fr
    have hat := M.at_
    rw [O.nm.in_] at hat
    refine PySem.W.in_K hF I.ok.mod.kin J (by rw [O.K]; exact hat) (by rw [O.K]; exact M.fn) ?_
    refine wpAny_mono (run_meth (n := nIn) (us := [.ref a, v]) (vs := [.ref a, x]) O.fn (O.room.mono (Nat.le_succ k)) O.gd rfl I (.cons rfl (.cons r1 .nil)) hS (rvs2 h2 h1) hP) (fun w s' z => ?_) fun _ _ x => x
    obtain ⟨z', H', I', rz, b, ez, qz⟩ := z
    subst ez
    cases (show w = Value.bool b from rz)
    exact wpAny_truthy_bool ⟨.bl b, H', I', rfl, by simpa using qz⟩
  · rename_i c fs
    have hP := boolP hP
    unfold callM at hP
    obtain ⟨f, hf, hP⟩ := bindO hP
    obtain ⟨kl, hk, ok, M⟩ := meth_of O.cls hf
    obtain ⟨a, dx, vs, rfl, rfl, ha, ox, od, J⟩ := ins_look I hS h2 r2
    obtain ⟨m, hF⟩ := I.fr
    have hat := M.at_
    rw [O.nm.in_] at hat
    refine PySem.W.notIn_K hF I.ok.mod.kin J (by rw [O.K]; exact hat) (by rw [O.K]; exact M.fn) ?_
    refine wpAny_mono (run_meth (n := nIn) (us := [.ref a, v]) (vs := [.ref a, x]) O.fn (O.room.mono (Nat.le_succ k)) O.gd rfl I (.cons rfl (.cons r1 .nil)) hS (rvs2 h2 h1) hP) (fun w s' z => ?_) fun _ _ x => x
    obtain ⟨z', H', I', rz, b, ez, qz⟩ := z
    subst ez
    cases (show w = Value.bool b from rz)
    exact wpAny_truthy_bool ⟨.bl (!b), H', I', rfl, by simpa using qz⟩
  · exact plain hP
end
end Ev
set_option Elab.async false
set_option linter.all false
set_option maxRecDepth 100000
set_option maxHeartbeats 1000000
/-! E16: built-in functions and methods. -/
namespace Ev
open PySem L2
open PyProof.Rows hiding St

section
variable {G : Rt} {X : Cx} {W : WX} {pins : List (Addr × Obj)} {σ : Slots} {H : Hp} {s : Shared} {F : Hp} {ρ : List Addr} {e : Env} {S : Store} {pos : Pos} {k : Nat} {fa : Nat → Addr} {call : Calls}
/-! ### the call of a built-in by its name -/
section
variable {x : Str} {p : Pos} {a : Expr} {es : List Expr} {l : Env → Store → R (List PV)} {id T : String} {g : List PV → Store → R PV}
theorem se_callB (hc : OpN G X W (.builtin id) g) (hg : Gl X x) (hm : X.mg x = none) (hv : bootBuiltins x = some (.builtin id)) (hn : x ≠ "__name__") (hd : (x == ("__debug__" : Str)) = false) (hst : (a :: es).all nostar = true) (ha : PA X (a :: es) (tL G W l)) :
    PE X (.Call (.Name x p) (a :: es) [] pos) (tE G W fun e S => (l e S).bind fun ps S => g ps S) := by
  have hst' := Bool.and_eq_true_iff.mp (List.all_cons ▸ hst)
  refine ⟨fun pins s σ H Q I ⟨F, ρ, e, S, hS, hE, hP⟩ => ?_⟩
  refine wpAny_Call_Name_kw (ld_blt I hg hm hv ?_ hn hd)
  exact PyProof.Rows.callWith_builtin1 (stepL ha I hS hE hP pos fun ps S1 F1 ρ1 H1 vs us s1 I1 r1 hS1 x1 hE1 q1 hP1 => hc pins s1 σ H1 vs us Q F1 ρ1 S1 ps I1 r1 hS1 q1 hP1) (star_no hst'.1) (star_any_false hst'.2)
theorem se_callT (hc : OpN G X W (.type T) g) (hg : Gl X x) (hm : X.mg x = none) (hv : bootBuiltins x = some (.type T)) (hn : x ≠ "__name__") (hd : (x == ("__debug__" : Str)) = false) (hst : (a :: es).all nostar = true) (ha : PA X (a :: es) (tL G W l)) :
    PE X (.Call (.Name x p) (a :: es) [] pos) (tE G W fun e S => (l e S).bind fun ps S => g ps S) := by
  have hst' := Bool.and_eq_true_iff.mp (List.all_cons ▸ hst)
  refine ⟨fun pins s σ H Q I ⟨F, ρ, e, S, hS, hE, hP⟩ => ?_⟩
  refine wpAny_Call_Name_kw (ld_blt I hg hm hv ?_ hn hd)
  exact PyProof.Rows.callWith_type1 (stepL ha I hS hE hP pos fun ps S1 F1 ρ1 H1 vs us s1 I1 r1 hS1 x1 hE1 q1 hP1 => hc pins s1 σ H1 vs us Q F1 ρ1 S1 ps I1 r1 hS1 q1 hP1) (star_no hst'.1) (star_any_false hst'.2)
end
theorem two_args {p q : PV} {xs : List V} (h : rvs G F ρ [p, q] xs) : ∃ v w, xs = [v, w] ∧ rv G F ρ p v ∧ rv G F ρ q w := by
  obtain ⟨v, r, rfl, a, b⟩ := rvs_cons h
  obtain ⟨w, r', rfl, c, d⟩ := rvs_cons b
  have e := rvs_nil d
  subst e
  exact ⟨v, w, rfl, a, c⟩
theorem one_arg {p : PV} {xs : List V} (h : rvs G F ρ [p] xs) : ∃ v, xs = [v] ∧ rv G F ρ p v := by
  obtain ⟨v, r, rfl, a, b⟩ := rvs_cons h
  have e := rvs_nil b
  subst e
  exact ⟨v, rfl, a⟩
theorem seqK (hK : X.K = G.K) {a : Addr} {vs : List V} (h : SqL G.K H a vs ∨ SqT G.K H a vs) : SqL X.K H a vs ∨ SqT X.K H a vs := by rw [hK]; exact h
/-- len of a list or a tuple -/
theorem len_items {p : PV} {v : V} {u : Value} {Q : VK} {W : XK} (hK : X.K = G.K) (I : Inv X pins σ H s) (r : RelV v u) (hS : SR G F ρ H S) (q : rv G F ρ p v) (hP : Post G F ρ H (opt ((items S p).map fun xs => PV.int xs.length) S) (rv G) Q W) :
    wpAny (model X.prog X.w) X.A (PySem.call (.builtin "len") [u]) (EP X pins σ Q) X.xe s := by
  cases hi : items S p with
  | none => rw [hi] at hP; exact hP.elim
  | some xs =>
    rw [hi] at hP
    obtain ⟨a, vs, rfl, sq, rr⟩ := items_ok hS q hi
    refine call_len_seq pins s σ H [.ref a] [u] Q I (.cons r .nil) ⟨a, vs, rfl, seqK hK sq, ?_⟩
    rw [← rvs_len rr]
    exact q_int hP hS
theorem on_len (O : Ops G X k fa call) : OpN G X W (.builtin "len") (bltE G.T call .len) := by
  intro pins s σ H xs us Q F ρ S ps I r hS q hP
  match ps, hP, q with
  | [], hP, _ => exact (show False from hP).elim
  | a :: _ :: _, hP, _ => cases a <;> exact (show False from hP).elim
  | [p], hP, q =>
    obtain ⟨v, rfl, q1⟩ := one_arg q
    obtain ⟨u, rfl, r1⟩ := vals1 r
    cases p with
    | str x =>
      obtain ⟨e1, k1⟩ := rv_str q1
      have hP : Post G F ρ H (opt (if x.length ≤ lim then some (PV.int x.length) else none) S) (rv G) Q (fun cls d H' => W cls d σ H') := hP
      rw [if_pos (okS_len k1)] at hP
      subst e1
      exact call_len_str pins s σ H _ _ Q I r ⟨sT x, rfl, Nat.le_trans (okS_len k1) lim_line, q_int hP hS⟩
    | ins c fs =>
      have hP : Post G F ρ H ((callM G.T call (.ins c fs) nLen [] S).bind fun v S => match v with
        | .int n => if decide (0 ≤ n) && decide (n < 1000000000) then .ok (.int n) S else .bad
        | _ => .bad) (rv G) Q (fun cls d H' => W cls d σ H') := hP
      unfold callM at hP
      rw [bind_assoc] at hP
      obtain ⟨f, hf, hP⟩ := bindO hP
      obtain ⟨kl, hk, ok, M⟩ := meth_of O.cls hf
      obtain ⟨a, dx, vs, rfl, rfl, ha, ox, od, J⟩ := ins_look I hS q1 r1
      obtain ⟨m, hF⟩ := I.fr
      have hat := M.at_
      rw [O.nm.len] at hat
      refine PySem.W.len_K hF I.ok.mod.kin J (by rw [O.K]; exact hat) (by rw [O.K]; exact M.fn) ?_
      refine wpAny_mono (run_meth (E := fun cls d H' => W cls d σ H') (Q := fun v H' => ∃ n : Int, v = .int n ∧ 0 ≤ n ∧ n < 2 ^ 63 ∧ Q (.int n) H') (n := nLen) (us := [.ref a]) (vs := [.ref a]) O.fn O.room.in1 O.gd frames_in1 I (.cons rfl .nil) hS (rvs1 q1) ?_) (fun w s' z => ?_) fun _ _ x => x
      · cases hc : call f [PV.ins c fs] S with
        | bad => rw [hc] at hP; exact hP.elim
        | exc z S1 => rw [hc] at hP; exact hP
        | ok p1 S1 =>
          rw [hc] at hP
          intro F1 ρ1 H1 v1 x1 hS1 q2
          cases p1 with
          | int n =>
            have e2 := rv_int q2
            subst e2
            have hP : Post G F ρ H (if (decide (0 ≤ n) && decide (n < 1000000000)) = true then R.ok (.int n) S1 else .bad) (rv G) Q (fun cls d H' => W cls d σ H') := hP
            by_cases hn : (decide (0 ≤ n) && decide (n < 1000000000)) = true
            · rw [if_pos hn] at hP
              have hn := Bool.and_eq_true_iff.mp hn
              have n1 := of_decide_eq_true hn.1
              have n2 := of_decide_eq_true hn.2
              exact ⟨n, rfl, n1, by omega, hP F1 ρ1 H1 _ x1 hS1 (by unfold rv; rfl)⟩
            · rw [if_neg hn] at hP; exact hP.elim
          | _ => exact (show False from hP).elim
      · obtain ⟨v', H', I', rz, n, rfl, n1, n2, qz⟩ := z
        obtain ⟨t, rfl⟩ := rz
        exact ⟨⟨n1, n2⟩, .int n, H', I'.tok _, ⟨_, rfl⟩, qz⟩
    | tup xs => exact len_items O.K I r1 hS q1 hP
    | lst xs => exact len_items O.K I r1 hS q1 hP
    | cell i => exact len_items O.K I r1 hS q1 hP
    | ex c xs => exact len_items O.K I r1 hS q1 hP
    | _ => exact (show False from hP).elim
theorem on_tuple (hK : X.K = G.K) : OpN G X W (.type "tuple") (bltE G.T call .tuple) := by
  intro pins s σ H xs us Q F ρ S ps I r hS q hP
  match ps, hP, q with
  | [], hP, _ => exact (show False from hP).elim
  | a :: _ :: _, hP, _ => cases a <;> exact (show False from hP).elim
  | [p], hP, q =>
    obtain ⟨v, rfl, q1⟩ := one_arg q
    have hP : Post G F ρ H (opt ((items S p).map PV.tup) S) (rv G) Q (fun cls d H' => W cls d σ H') := hP
    cases hi : items S p with
    | none => rw [hi] at hP; exact hP.elim
    | some ys =>
      rw [hi] at hP
      have hP2 : Post G F ρ H (R.ok (.tup ys) S) (rv G) Q (fun cls d H' => W cls d σ H') := hP
      clear hP
      cases p with
      | tup zs =>
        cases hi
        unfold rv at q1
        obtain ⟨a, vs, rfl, z, rr⟩ := q1
        exact call_tuple_of pins s σ H _ us Q I r ⟨a, vs, rfl, .inr ⟨by rw [hK]; exact sqT_mono hS.sub z, tup_known hP2 hS z rr⟩⟩
      | lst zs =>
        cases hi
        unfold rv at q1
        obtain ⟨a, vs, rfl, z, rr⟩ := q1
        exact call_tuple_of pins s σ H _ us Q I r ⟨a, vs, rfl, .inl ⟨SqL.of (hS.sub _ _ z), mk_tup hP2 hS rr⟩⟩
      | cell i =>
        have hi : (match S[i]? with
          | some (.lst xs) => some xs
          | some (.scr xs) => some xs
          | _ => none) = some ys := hi
        unfold rv at q1
        obtain ⟨a, rfl, ha⟩ := q1
        cases hc : S[i]? with
        | none => rw [hc] at hi; cases hi
        | some c =>
          rw [hc] at hi
          cases c with
          | lst zs =>
            cases hi
            obtain ⟨vs, ho, rr⟩ := hS.at_ _ _ a hc ha
            exact call_tuple_of pins s σ H _ us Q I r ⟨a, vs, rfl, .inl ⟨SqL.of ho, mk_tup hP2 hS rr⟩⟩
          | scr zs =>
            cases hi
            obtain ⟨u, vs, ho, rr⟩ := hS.at_ _ _ a hc ha
            exact call_tuple_of pins s σ H _ us Q I r ⟨a, vs, rfl, .inl ⟨.inl (.inr ⟨u, ho⟩), mk_tup hP2 hS rr⟩⟩
          | _ => cases hi
      | ex c zs =>
        have hi : (if (c == scrN) = true then some zs else none) = some ys := hi
        by_cases hc : (c == scrN) = true
        · rw [if_pos hc] at hi
          cases hi
          unfold rv at q1
          obtain ⟨_, a, vs, rfl, z, rr⟩ := q1
          exact call_tuple_of pins s σ H _ us Q I r ⟨a, vs, rfl, .inl ⟨by rw [hK]; exact sqL_mono hS.sub z, mk_tup hP2 hS rr⟩⟩
        · rw [if_neg hc] at hi; cases hi
      | _ => cases hi
theorem on_list (hK : X.K = G.K) : OpN G X W (.type "list") (bltE G.T call .list) := by
  intro pins s σ H xs us Q F ρ S ps I r hS q hP
  match ps, hP, q with
  | [], hP, _ => exact (show False from hP).elim
  | a :: _ :: _, hP, _ => cases a <;> exact (show False from hP).elim
  | [p], hP, q =>
    obtain ⟨v, rfl, q1⟩ := one_arg q
    have hP : Post G F ρ H (opt ((items S p).map PV.lst) S) (rv G) Q (fun cls d H' => W cls d σ H') := hP
    cases hi : items S p with
    | none => rw [hi] at hP; exact hP.elim
    | some ys =>
      rw [hi] at hP
      obtain ⟨a, vs, rfl, sq, rr⟩ := items_ok hS q1 hi
      exact call_list_of pins s σ H _ us Q I r ⟨a, vs, rfl, seqK hK sq, mk_lst hP hS rr⟩
theorem on_int : OpN G X W (.type "int") (bltE G.T call .int) := by
  intro pins s σ H xs us Q F ρ S ps I r hS q hP
  match ps, hP, q with
  | [], hP, _ => exact (show False from hP).elim
  | a :: _ :: _, hP, _ => cases a <;> exact (show False from hP).elim
  | [p], hP, q =>
    obtain ⟨v, rfl, q1⟩ := one_arg q
    cases p with
    | int i =>
      have e := rv_int q1; subst e
      exact call_int1 pins s σ H _ us Q I r (.inl ⟨i, rfl, q_int hP hS⟩)
    | bl b =>
      have e := rv_bl q1; subst e
      exact call_int1 pins s σ H _ us Q I r (.inr ⟨b, rfl, q_int hP hS⟩)
    | str x =>
      obtain ⟨e, k1⟩ := rv_str q1; subst e
      have hP : Post G F ρ H (opt (if x.length ≤ 640 then (intText? (sT x)).map PV.int else none) S) (rv G) Q (fun cls d H' => W cls d σ H') := hP
      by_cases hl : x.length ≤ 640
      · rw [if_pos hl] at hP
        cases hi : intText? (sT x) with
        | none => rw [hi] at hP; exact hP.elim
        | some n =>
          rw [hi] at hP
          exact call_int_str pins s σ H _ us Q I r ⟨sT x, n, rfl, hi, hl, q_int hP hS⟩
      · rw [if_neg hl] at hP; exact hP.elim
    | _ => exact (show False from hP).elim
theorem on_abs : OpN G X W (.builtin "abs") (bltE G.T call .abs) := by
  intro pins s σ H xs us Q F ρ S ps I r hS q hP
  match ps, hP, q with
  | [], hP, _ => exact (show False from hP).elim
  | a :: _ :: _, hP, _ => cases a <;> exact (show False from hP).elim
  | [p], hP, q =>
    obtain ⟨v, rfl, q1⟩ := one_arg q
    cases p with
    | int i =>
      have e := rv_int q1; subst e
      exact call_abs pins s σ H _ us Q I r ⟨i, rfl, q_int hP hS⟩
    | _ => exact (show False from hP).elim
theorem on_max (hc : X.calm = true) : OpN G X W (.builtin "max") (bltE G.T call .max) := by
  intro pins s σ H xs us Q F ρ S ps I r hS q hP
  match ps, hP, q with
  | [], hP, _ => exact (show False from hP).elim
  | [.int _], hP, _ | [.str _], hP, _ | [.non], hP, _ | [.bl _], hP, _ | [.tup _], hP, _ | [.lst _], hP, _ | [.dct _ _], hP, _ | [.ins _ _], hP, _ | [.cell _], hP, _ | [.obj _], hP, _ | [.ex _ _], hP, _ => exact (show False from hP).elim
  | a :: b :: _ :: _, hP, _ => cases a <;> first | exact (show False from hP).elim | (cases b <;> exact (show False from hP).elim)
  | [p, p2], hP, q =>
    obtain ⟨v, w, rfl, q1, q2⟩ := two_args q
    cases p with
    | int i =>
      cases p2 with
      | int j =>
        have e := rv_int q1; subst e
        have e := rv_int q2; subst e
        exact call_max2 hc pins s σ H _ us Q I r ⟨i, j, rfl, q_int hP hS⟩
      | _ => exact (show False from hP).elim
    | _ => exact (show False from hP).elim
theorem on_divmod : OpN G X W (.builtin "divmod") (bltE G.T call .divmod) := by
  intro pins s σ H xs us Q F ρ S ps I r hS q hP
  match ps, hP, q with
  | [], hP, _ => exact (show False from hP).elim
  | [a], hP, _ => cases a <;> exact (show False from hP).elim
  | a :: b :: _ :: _, hP, _ => cases a <;> first | exact (show False from hP).elim | (cases b <;> exact (show False from hP).elim)
  | [p, p2], hP, q =>
    obtain ⟨v, w, rfl, q1, q2⟩ := two_args q
    cases p with
    | int i =>
      cases p2 with
      | int j =>
        have e := rv_int q1; subst e
        have e := rv_int q2; subst e
        have hP : Post G F ρ H (opt (if (decide (0 < j) && decide (j < 1000000000)) = true then some (.tup [.int (i / j), .int (i % j)]) else none) S) (rv G) Q (fun cls d H' => W cls d σ H') := hP
        by_cases hj : (decide (0 < j) && decide (j < 1000000000)) = true
        · rw [if_pos hj] at hP
          have hj := Bool.and_eq_true_iff.mp hj
          have j1 := of_decide_eq_true hj.1
          have j2 := of_decide_eq_true hj.2
          exact call_divmod pins s σ H _ us Q I r ⟨i, j, rfl, ⟨j1, by omega⟩, mk_tup hP hS (rvs2 (by unfold rv; rfl) (by unfold rv; rfl))⟩
        · rw [if_neg hj] at hP; exact hP.elim
      | _ => exact (show False from hP).elim
    | _ => exact (show False from hP).elim
theorem bls_of : ∀ {xs : List PV} {bs : List Bool} {vs : List V}, blsO xs = some bs → rvs G F ρ xs vs → vs = bs.map V.bl
  | [], bs, vs, h, r => by cases h; exact rvs_nil r
  | x :: xs, bs, vs, h, r => by
    obtain ⟨v, r', rfl, a, b⟩ := rvs_cons r
    cases x with
    | bl c =>
      unfold blsO at h
      cases hx : blsO xs with
      | none => rw [hx] at h; cases h
      | some bs' =>
        rw [hx] at h
        cases h
        rw [rv_bl a, bls_of hx b]
        rfl
    | _ => cases h
theorem on_all (hc : X.calm = true) : OpN G X W (.builtin "all") (bltE G.T call .all) := by
  intro pins s σ H xs us Q F ρ S ps I r hS q hP
  match ps, hP, q with
  | [], hP, _ => exact (show False from hP).elim
  | a :: _ :: _, hP, _ => cases a <;> exact (show False from hP).elim
  | [p], hP, q =>
    obtain ⟨v, rfl, q1⟩ := one_arg q
    cases p with
    | lst xs =>
      have hP : Post G F ρ H (opt ((blsO xs).map fun bs => PV.bl (bs.all id)) S) (rv G) Q (fun cls d H' => W cls d σ H') := hP
      cases hb : blsO xs with
      | none => rw [hb] at hP; exact hP.elim
      | some bs =>
        rw [hb] at hP
        unfold rv at q1
        obtain ⟨a, vs, rfl, z, rr⟩ := q1
        have e := bls_of hb rr
        subst e
        exact cr_all hc pins s σ H _ us Q I r ⟨a, bs, rfl, SqL.of (hS.sub _ _ z), q_bl hP hS⟩
    | _ => exact (show False from hP).elim
end
end Ev
set_option Elab.async false
set_option linter.all false
set_option maxRecDepth 100000
set_option maxHeartbeats 1000000
/-! E17: isinstance. -/
namespace Ev
open PySem L2
open PyProof.Rows hiding St

def tyN : Ty → String
  | .int => "int"
  | .str => "str"
  | .bool => "bool"
  | .tuple => "tuple"
  | .list => "list"
  | .own _ => ""
def tyV (G : Rt) : Ty → V
  | .own c => .ref (G.clsA c)
  | t => .ty (tyN t)
def tyU (G : Rt) : Ty → Value
  | .own c => .ref (G.clsA c)
  | t => .type (tyN t)
/-- what isinstance asks of a class of the text -/
structure ClsIs (G : Rt) (c : Nat) : Prop where
  ha : PySem.W.findIn G.K (.ref (G.clsA c)) "__class__" = some (some (.builtin "object.__class__"))
  hn : PySem.W.specialIn G.K (.builtin "object.__class__") "__get__" = some (some (.builtin "getset_descriptor.__get__"))
  htk : PySem.W.takesIn G.K (.builtin "object.__class__") = some true
  hm : PySem.W.mroIn G.K (G.clsA c) (.type "object") = some true
  own : ∀ d kl, G.T.cls[d]? = some kl → PySem.W.kitOne G.K (.ref (G.clsA c)) (.ref (G.clsA d)) = some (d == c)
  blt : ∀ T, T ∈ ["int", "str", "bool", "tuple", "list"] → PySem.W.kitOne G.K (.ref (G.clsA c)) (.type T) = some false
  of_ : ∀ T, T ∈ ["NoneType", "int", "str", "bool", "tuple", "list"] → PySem.W.kitOne G.K (.type T) (.ref (G.clsA c)) = some false
section
variable {G : Rt} {X : Cx} {W : WX} {pins : List (Addr × Obj)} {σ : Slots} {H : Hp} {s : Shared} {F : Hp} {ρ : List Addr} {e : Env} {S : Store} {pos : Pos} {k : Nat} {fa : Nat → Addr} {call : Calls}
theorem ty_tup {a : Addr} {xs : List V} (h : SqT G.K H a xs) : TyX G.K H (.ref a) (.type "tuple") := by
  rcases h with (h | ⟨o, h⟩) | ⟨o, its, n, hk, hc, _⟩
  · exact .base (.tup h)
  · exact .fTuple h
  · exact .kTuple hk hc
theorem is_ty {t : Ty} {p : PV} {v : V} {b : Bool} (hcl : ∀ c kl, G.T.cls[c]? = some kl → L2.Cls G.K (G.clsA c) ∧ ClsIs G c) (hown : ∀ c, t = .own c → ∃ kl, G.T.cls[c]? = some kl) (hin : ∀ d gs, p = .ins d gs → ∃ kl, G.T.cls[d]? = some kl) (hS : SR G F ρ H S) (hv : rv G F ρ p v) (h : isTy t p = some b) :
    ∃ ty, TyX G.K H v ty ∧ PySem.W.kitOne G.K ty (tyU G t) = some b := by
  have ho : ∀ c, t = .own c → ClsIs G c := fun c e => let ⟨kl, hk⟩ := hown c e; (hcl c kl hk).2
  cases p with
  | non =>
    unfold rv at hv; subst hv
    refine ⟨_, .base .non, ?_⟩
    cases t with
    | own c => cases h; exact (ho c rfl).of_ _ (by simp)
    | _ => cases h; exact kit_ty (by decide +kernel)
  | bl x =>
    have e := rv_bl hv; subst e
    refine ⟨_, .base (.bl x), ?_⟩
    cases t with
    | own c => cases h; exact (ho c rfl).of_ _ (by simp)
    | _ => cases h; exact kit_ty (by decide +kernel)
  | int x =>
    have e := rv_int hv; subst e
    refine ⟨_, .base (.int x), ?_⟩
    cases t with
    | own c => cases h; exact (ho c rfl).of_ _ (by simp)
    | _ => cases h; exact kit_ty (by decide +kernel)
  | str x =>
    obtain ⟨e, _⟩ := rv_str hv; subst e
    refine ⟨_, .base (.str (sT x)), ?_⟩
    cases t with
    | own c => cases h; exact (ho c rfl).of_ _ (by simp)
    | _ => cases h; exact kit_ty (by decide +kernel)
  | tup xs =>
    unfold rv at hv
    obtain ⟨a, vs, rfl, z, _⟩ := hv
    refine ⟨_, ty_tup (sqT_mono hS.sub z), ?_⟩
    cases t with
    | own c => cases h; exact (ho c rfl).of_ _ (by simp)
    | _ => cases h; exact kit_ty (by decide +kernel)
  | lst xs =>
    unfold rv at hv
    obtain ⟨a, vs, rfl, z, _⟩ := hv
    refine ⟨_, .base (.lst (hS.sub _ _ z)), ?_⟩
    cases t with
    | own c => cases h; exact (ho c rfl).of_ _ (by simp)
    | _ => cases h; exact kit_ty (by decide +kernel)
  | ins d gs =>
    obtain ⟨kl, hk⟩ := hin d gs rfl
    obtain ⟨cl, ci⟩ := hcl d kl hk
    obtain ⟨a, dx, vs, rfl, ha, _⟩ := ins_at hS hv (c := d) (fs := gs) rfl
    refine ⟨_, .base (.ins ha cl ci.ha ci.hn ci.htk ci.hm), ?_⟩
    cases t with
    | own c =>
      obtain ⟨kl2, hk2⟩ := hown c rfl
      cases h
      exact ci.own c kl2 hk2
    | _ => cases h; exact ci.blt _ (by simp [tyN])
  | _ => cases h
theorem clsV {t : Ty} : ClsV (tyV G t) (tyU G t) := by
  cases t <;> first | exact .ty _ | exact .own _
/-- isinstance(x, c), one class -/
theorem se_isi {a c : Expr} {p : Pos} {x : Env → Store → R PV} {t : Ty} (hK : X.K = G.K) (hcl : ∀ c kl, G.T.cls[c]? = some kl → L2.Cls G.K (G.clsA c) ∧ ClsIs G c) (hown : ∀ c, t = .own c → ∃ kl, G.T.cls[c]? = some kl)
    (hg : Gl X "isinstance") (hm : X.mg "isinstance" = none) (hn : nostar a = true) (hn2 : nostar c = true) (ha : PE X a (tE G W x)) (hc : PE X c (tC (tyV G t))) :
    PE X (.Call (.Name "isinstance" p) [a, c] [] pos) (tE G W fun e S => (x e S).bind fun p S => (opt (isiO G.T t p) S).bind fun b S => .ok (.bl b) S) := by
  refine ⟨fun pins s σ H Q I ⟨F, ρ, e, S, hS, hE, hP⟩ => ?_⟩
  refine (pe_callB call_isi hg hm PyProof.Rows.boot_isinstance (pa_cons ha (pa_cons hc pa_nil (star_no hn2)) (star_no hn)) (by decide) (by decide) (star_no hn) (star_any_false (by rw [List.all_cons, hn2]; rfl))).run pins s σ H Q I ?_
  refine ⟨F, ρ, e, S, hS, hE, ?_⟩
  dsimp only at hP
  cases hx : x e S with
  | bad => rw [hx] at hP; exact hP.elim
  | exc z S1 => rw [hx] at hP; exact hP
  | ok q S1 =>
    rw [hx] at hP
    intro F1 ρ1 H1 v x1 hS1 q1
    obtain ⟨b, hb, hP⟩ := bindO (Post.mono x1 hP)
    have hb' : isTy t q = some b ∧ ∀ d gs, q = .ins d gs → ∃ kl, G.T.cls[d]? = some kl := by
      cases q with
      | ins d gs =>
        have hb : (if (G.T.cls[d]?).isSome = true then isTy t (PV.ins d gs) else none) = some b := hb
        by_cases hd : (G.T.cls[d]?).isSome = true
        · rw [if_pos hd] at hb
          exact ⟨hb, fun d' gs' e => by cases e; exact Option.isSome_iff_exists.mp hd⟩
        · rw [if_neg hd] at hb; cases hb
      | _ => exact ⟨hb, fun d gs e => by cases e⟩
    obtain ⟨ty, h1, h2⟩ := is_ty hcl hown hb'.2 hS1 q1 hb'.1
    exact ⟨v, tyV G t, ty, tyU G t, b, rfl, clsV, by rw [hK]; exact h1, by rw [hK]; exact h2, q_bl hP hS1⟩
end
end Ev
set_option Elab.async false
set_option linter.all false
set_option maxRecDepth 100000
set_option maxHeartbeats 1000000
/-! E18: methods of texts and lists. -/
namespace Ev
open PySem L2
open PyProof.Rows hiding St

section
variable {G : Rt} {X : Cx} {W : WX} {pins : List (Addr × Obj)} {σ : Slots} {H : Hp} {s : Shared} {F : Hp} {ρ : List Addr} {e : Env} {S : Store} {pos : Pos} {k : Nat} {fa : Nat → Addr} {call : Calls}
def mthC (m : Mth) (x : Env → Store → R PV) (l : Env → Store → R (List PV)) : Env → Store → R PV := fun e S => (x e S).bind fun p S => if mthPre m p S then (l e S).bind fun ps S => mthE m p ps S else .bad
/-- a method of a text, one argument -/
theorem se_mth1 {m : Mth} {id : String} {name : Str} {o a : Expr} {apos : Pos} {r : V → List V → Hp → VK → Prop} {x y : Env → Store → R PV} (slot : Slot "str" name id) (ty : typeOf (.builtin id) = pure (.type "method_descriptor")) (rule : MtR X id r)
    (hpre : ∀ p S, mthPre m p S = true → ∃ t, p = .str t) (ho : PE X o (tE G W x)) (ha : PE X a (tE G W y)) (hn : nostar a = true) (hbase : attributeBase o name X.env (eval o X.env) = eval o X.env) (hline : (apos.endLine == pos.line) = true)
    (key : ∀ (F : Hp) (ρ : List Addr) (H : Hp) (S : Store) (Q : VK) (W : XK) (t : List Nat) (q : PV) (w : V), SR G F ρ H S → okS t = true → rv G F ρ q w → Post G F ρ H (mthE m (.str t) [q] S) (rv G) Q W → r (.str (sT t)) [w] H Q) :
    PE X (.Call (.Attribute o name apos) [a] [] pos) (tE G W (mthC m x (consL y fun _ S => .ok [] S))) := by
  refine ⟨fun pins s σ H Q I ⟨F, ρ, e, S, hS, hE, hP⟩ => (pe_m1 slot ty rule ho ha (star_no hn) hbase hline).run pins s σ H Q I ⟨F, ρ, e, S, hS, hE, ?_⟩⟩
  unfold mthC at hP
  cases hx : x e S with
  | bad => rw [hx] at hP; exact hP.elim
  | exc z S1 => rw [hx] at hP; exact hP
  | ok p S1 =>
    rw [hx] at hP
    simp only [bind_ok] at hP
    intro F1 ρ1 H1 v x1 hS1 q1
    by_cases hp : mthPre m p S1 = true
    · rw [if_pos hp] at hP
      obtain ⟨t, rfl⟩ := hpre p S1 hp
      obtain ⟨e1, k1⟩ := rv_str q1
      subst e1
      refine ⟨⟨_, rfl⟩, F1, ρ1, e, S1, hS1, rE_ext x1 hE, ?_⟩
      have hP1 := Post.mono x1 hP
      unfold consL at hP1
      cases hy : y e S1 with
      | bad => rw [hy] at hP1; exact hP1.elim
      | exc z S2 => rw [hy] at hP1; exact hP1
      | ok q S2 =>
        rw [hy] at hP1
        simp only [bind_ok] at hP1
        intro F2 ρ2 H2 w x2 hS2 q2
        exact key F2 ρ2 H2 S2 Q _ t q w hS2 k1 q2 (Post.mono x2 hP1)
    · rw [if_neg hp] at hP; exact hP.elim
theorem rvs_new {xs : List Str} (h : xs.all (fun x => okS (uT x)) = true) : rvs G F ρ (xs.map fun x => PV.str (uT x)) (xs.map V.str) := by
  induction xs with
  | nil => unfold rvs; rfl
  | cons x r ih =>
    have h' := Bool.and_eq_true_iff.mp (List.all_cons ▸ h)
    show rvs G F ρ (PV.str (uT x) :: _) (V.str x :: r.map V.str)
    unfold rvs
    exact ⟨_, _, rfl, by unfold rv; exact ⟨rfl, h'.1⟩, ih h'.2⟩
theorem strs_of : ∀ {xs : List PV} {ts : List (List Nat)} {vs : List V}, strsO xs = some ts → rvs G F ρ xs vs → vs = (ts.map sT).map V.str
  | [], ts, vs, h, r => by cases h; exact rvs_nil r
  | x :: xs, ts, vs, h, r => by
    obtain ⟨v, r', rfl, a, b⟩ := rvs_cons r
    cases x with
    | str t =>
      unfold strsO at h
      cases hx : strsO xs with
      | none => rw [hx] at h; cases h
      | some ts' =>
        rw [hx] at h
        cases h
        rw [(rv_str a).1, strs_of hx b]
        rfl
    | _ => cases h
theorem sumLen_eq : ∀ ts : List (List Nat), ((ts.map sT).map (·.length)).sum = sumLen ts
  | [] => rfl
  | t :: r => by
    show t.length + ((r.map sT).map (·.length)).sum = t.length + sumLen r
    rw [sumLen_eq r]
theorem se_join {o a : Expr} {apos : Pos} {x y : Env → Store → R PV} (hK : X.K = G.K) (ho : PE X o (tE G W x)) (ha : PE X a (tE G W y)) (hn : nostar a = true) (hbase : attributeBase o "join" X.env (eval o X.env) = eval o X.env) (hline : (apos.endLine == pos.line) = true) :
    PE X (.Call (.Attribute o "join" apos) [a] [] pos) (tE G W (mthC .join x (consL y fun _ S => .ok [] S))) := by
  refine se_mth1 (m := .join) F.slot_str_join F.type_str_join mt_join (fun p S h => ?_) ho ha hn hbase hline fun F ρ H S Q W t q w hS k1 q2 hP => ?_
  · cases p <;> first | exact ⟨_, rfl⟩ | cases h
  · have hP : Post G F ρ H (match (items S q).bind fun xs => (strsO xs).bind fun ts => if decide (sumLen ts + ts.length * t.length ≤ lim) = true then (newS (Txt.join (sT t) (ts.map sT))).map fun r => (r, S) else none with
      | some (q, S') => .ok q S'
      | none => .bad) (rv G) Q W := hP
    cases hi : items S q with
    | none => rw [hi] at hP; exact hP.elim
    | some xs =>
      rw [hi] at hP
      obtain ⟨b, vs, rfl, sq, rr⟩ := items_ok hS q2 hi
      cases ht : strsO xs with
      | none => simp only [Option.bind_some, ht, Option.bind_none] at hP; exact hP.elim
      | some ts =>
        simp only [Option.bind_some, ht] at hP
        by_cases hl : decide (sumLen ts + ts.length * t.length ≤ lim) = true
        · rw [if_pos hl] at hP
          have hl := of_decide_eq_true hl
          unfold newS at hP
          by_cases hk : okS (uT (Txt.join (sT t) (ts.map sT))) = true
          · rw [if_pos hk] at hP
            have e := strs_of ht rr
            subst e
            refine ⟨sT t, b, ts.map sT, rfl, rfl, seqK hK sq, ?_, ?_⟩
            · rw [sumLen_eq, List.length_map]
              show sumLen ts + ts.length * t.length ≤ 16777216
              have : lim = 1000000 := rfl
              omega
            · exact q_str (x := uT (Txt.join (sT t) (ts.map sT))) hP hS hk
          · rw [if_neg hk] at hP; exact hP.elim
        · rw [if_neg hl] at hP; exact hP.elim
theorem se_split {o a : Expr} {apos : Pos} {x y : Env → Store → R PV} (ho : PE X o (tE G W x)) (ha : PE X a (tE G W y)) (hn : nostar a = true) (hbase : attributeBase o "split" X.env (eval o X.env) = eval o X.env) (hline : (apos.endLine == pos.line) = true) :
    PE X (.Call (.Attribute o "split" apos) [a] [] pos) (tE G W (mthC .split x (consL y fun _ S => .ok [] S))) := by
  refine se_mth1 (m := .split) F.slot_str_split F.type_str_split mt_split (fun p S h => ?_) ho ha hn hbase hline fun F ρ H S Q W t q w hS k1 q2 hP => ?_
  · cases p <;> first | exact ⟨_, rfl⟩ | cases h
  · cases q with
    | str u =>
      obtain ⟨e2, k2⟩ := rv_str q2
      subst e2
      have hP : Post G F ρ H (match (if (!u.isEmpty && decide (t.length + 2 ≤ lim)) = true then (newSs (Txt.split (sT t) (sT u))).map fun r => (PV.lst r, S) else none) with
        | some (q, S') => .ok q S'
        | none => .bad) (rv G) Q W := hP
      by_cases hl : (!u.isEmpty && decide (t.length + 2 ≤ lim)) = true
      · rw [if_pos hl] at hP
        have hl := Bool.and_eq_true_iff.mp hl
        have h2 := of_decide_eq_true hl.2
        unfold newSs at hP
        by_cases hk : (Txt.split (sT t) (sT u)).all (fun x => okS (uT x)) = true
        · rw [if_pos hk] at hP
          refine ⟨sT t, sT u, rfl, rfl, ?_, ?_, ?_⟩
          · show (u.length == 0) = false
            cases u with
            | nil => cases hl.1
            | cons _ _ => rfl
          · show t.length + 2 ≤ sizeLine
            exact Nat.le_trans h2 lim_line
          · exact mk_lst hP hS (rvs_new hk)
        · rw [if_neg hk] at hP; exact hP.elim
      · rw [if_neg hl] at hP; exact hP.elim
    | _ => exact (show False from hP).elim
end
end Ev
set_option Elab.async false
set_option linter.all false
set_option maxRecDepth 100000
set_option maxHeartbeats 1000000
/-! E18s: sorted texts. -/
namespace Ev
open PySem L2
open PyProof.Rows hiding St

def leL (a b : List Nat) : Prop := ltT b a = false
theorem leL_iff (a b : List Nat) : leL a b ↔ a ≤ b := by
  unfold leL
  rw [ltT_dec]
  simp
theorem leL_trans {a b c : List Nat} (h : leL a b) (h2 : leL b c) : leL a c := (leL_iff a c).mpr (List.le_trans ((leL_iff a b).mp h) ((leL_iff b c).mp h2))
theorem leL_anti {a b : List Nat} (h : leL a b) (h2 : leL b a) : a = b := List.le_antisymm ((leL_iff a b).mp h) ((leL_iff b a).mp h2)
theorem leL_total (a b : List Nat) : leL a b ∨ leL b a := by
  rcases List.le_total a b with h | h
  · exact .inl ((leL_iff _ _).mpr h)
  · exact .inr ((leL_iff _ _).mpr h)
theorem insT_perm (x : List Nat) : ∀ l : List (List Nat), (insT x l).Perm (x :: l)
  | [] => List.Perm.refl _
  | y :: r => by
    unfold insT
    by_cases h : ltT y x = true
    · rw [if_pos h]
      exact ((insT_perm x r).cons y).trans (List.Perm.swap x y r)
    · rw [if_neg h]
theorem sortT_perm : ∀ l : List (List Nat), (sortT l).Perm l
  | [] => List.Perm.refl _
  | x :: r => (insT_perm x (sortT r)).trans ((sortT_perm r).cons x)
theorem insT_mem {x z : List Nat} {l : List (List Nat)} (h : z ∈ insT x l) : z = x ∨ z ∈ l := by
  have := (insT_perm x l).mem_iff.mp h
  simpa using this
theorem insT_sorted (x : List Nat) : ∀ l : List (List Nat), l.Pairwise leL → (insT x l).Pairwise leL
  | [], _ => by unfold insT; simp
  | y :: r, h => by
    have h' := List.pairwise_cons.mp h
    unfold insT
    by_cases hy : ltT y x = true
    · rw [if_pos hy]
      refine List.pairwise_cons.mpr ⟨fun z hz => ?_, insT_sorted x r h'.2⟩
      rcases insT_mem hz with rfl | hz
      · rcases leL_total y z with q | q
        · exact q
        · unfold leL at q; rw [hy] at q; cases q
      · exact h'.1 z hz
    · rw [if_neg hy]
      have hx : leL x y := by unfold leL; simpa using hy
      refine List.pairwise_cons.mpr ⟨fun z hz => ?_, h⟩
      rcases List.mem_cons.mp hz with rfl | hz
      · exact hx
      · exact leL_trans hx (h'.1 z hz)
theorem sortT_sorted : ∀ l : List (List Nat), (sortT l).Pairwise leL
  | [] => List.Pairwise.nil
  | x :: r => insT_sorted x _ (sortT_sorted r)
theorem rise_pair : ∀ (r : List Str) (p : Str), PyProof.Rows.risingS p r = true → (p :: r).Pairwise fun a b => leL (uT a) (uT b)
  | [], p, _ => by simp
  | x :: r, p, h => by
    obtain ⟨h1, h2⟩ := Bool.and_eq_true_iff.mp (show (!PySem.Spec.ltCps x.cps.toList p.cps.toList && PyProof.Rows.risingS x r) = true from h)
    have ih := rise_pair r x h2
    have hp : leL (uT p) (uT x) := by
      have : PySem.Spec.ltCps x.cps.toList p.cps.toList = false := by simpa using h1
      rw [PyProof.Rows.ltCps_eq] at this
      unfold leL
      rw [ltT_dec]
      exact this
    refine List.pairwise_cons.mpr ⟨fun z hz => ?_, ih⟩
    rcases List.mem_cons.mp hz with rfl | hz
    · exact hp
    · exact leL_trans hp ((List.pairwise_cons.mp ih).1 z hz)
theorem sorted_pair {ys : List Str} (h : PyProof.Rows.sortedS ys = true) : ys.Pairwise fun a b => leL (uT a) (uT b) := by
  cases ys with
  | nil => exact List.Pairwise.nil
  | cons x r => exact rise_pair r x h
theorem sT_uT (x : Str) : sT (uT x) = x := rfl
theorem sorted_is {ys : List Str} {ts : List (List Nat)} (hp : ys.Perm (ts.map sT)) (h : PyProof.Rows.sortedS ys = true) : ys = (sortT ts).map sT := by
  have h2 : ((sortT ts).map sT).Pairwise fun a b => leL (uT a) (uT b) := by
    rw [List.pairwise_map]
    exact sortT_sorted ts
  refine List.Perm.eq_of_pairwise (le := fun a b => leL (uT a) (uT b)) (fun a b _ _ h1 h2 => ?_) (sorted_pair h) h2 (hp.trans ((sortT_perm ts).map sT).symm)
  have := leL_anti h1 h2
  rw [← sT_uT a, ← sT_uT b, this]
section
variable {G : Rt} {X : Cx} {W : WX} {call : Calls}
theorem strs_ok {F : Hp} {ρ : List Addr} : ∀ {xs : List PV} {ts : List (List Nat)} {vs : List V}, strsO xs = some ts → rvs G F ρ xs vs → ∀ t ∈ ts, okS t = true
  | [], ts, vs, h, r => by cases h; intro t ht; cases ht
  | x :: xs, ts, vs, h, r => by
    obtain ⟨v, r', rfl, a, b⟩ := rvs_cons r
    cases x with
    | str t =>
      unfold strsO at h
      cases hx : strsO xs with
      | none => rw [hx] at h; cases h
      | some ts' =>
        rw [hx] at h
        cases h
        intro z hz
        rcases List.mem_cons.mp hz with rfl | hz
        · exact (rv_str a).2
        · exact strs_ok hx b z hz
    | _ => cases h
theorem rvs_strs {F : Hp} {ρ : List Addr} : ∀ {ts : List (List Nat)}, (∀ t ∈ ts, okS t = true) → rvs G F ρ (ts.map PV.str) ((ts.map sT).map V.str)
  | [], _ => by unfold rvs; rfl
  | t :: r, h => by
    show rvs G F ρ (PV.str t :: r.map PV.str) (V.str (sT t) :: (r.map sT).map V.str)
    unfold rvs
    exact ⟨_, _, rfl, by unfold rv; exact ⟨rfl, h t List.mem_cons_self⟩, rvs_strs fun z hz => h z (List.mem_cons_of_mem _ hz)⟩
theorem on_sorted (hc : X.calm = true) (hK : X.K = G.K) : OpN G X W (.builtin "sorted") (bltE G.T call .sorted) := by
  intro pins s σ H xs us Q F ρ S ps I r hS q hP
  match ps, hP, q with
  | [], hP, _ => exact (show False from hP).elim
  | a :: _ :: _, hP, _ => cases a <;> exact (show False from hP).elim
  | [p], hP, q =>
    obtain ⟨v, rfl, q1⟩ := one_arg q
    cases p with
    | dct ks ps =>
      have hP : Post G F ρ H (opt (if ks.length < 64 then some (PV.lst ((sortT ks).map .str)) else none) S) (rv G) Q (fun cls d H' => W cls d σ H') := hP
      by_cases hl : ks.length < 64
      · rw [if_pos hl] at hP
        unfold rv at q1
        obtain ⟨a, vs, rfl, z, l, nd, ok, rr⟩ := q1
        have ek : (kvs ks vs).map (·.1) = (ks.map sT).map Sum.inr := by
          unfold kvs
          rw [List.map_fst_zip (by rw [List.length_map]; exact Nat.le_of_eq l), List.map_map]
          rfl
        refine call_sortedD hc pins s σ H _ us Q I r ⟨a, kvs ks vs, ks.map sT, rfl, rd_mono hS.sub z, ek, by rw [List.length_map]; exact hl, fun zs p hp hs hn => ?_⟩
        rw [sorted_is hp hs]
        exact mk_lst hP hS (rvs_strs fun t h => ok t ((sortT_perm ks).mem_iff.mp h)) p hn
      · rw [if_neg hl] at hP; exact hP.elim
    | lst ys =>
      have hP : Post G F ρ H (opt ((strsO ys).bind fun ts => if ts.length < 64 then some (PV.lst ((sortT ts).map .str)) else none) S) (rv G) Q (fun cls d H' => W cls d σ H') := hP
      cases ht : strsO ys with
      | none => rw [ht] at hP; exact hP.elim
      | some ts =>
        rw [ht] at hP
        have hP : Post G F ρ H (opt (if ts.length < 64 then some (PV.lst ((sortT ts).map .str)) else none) S) (rv G) Q (fun cls d H' => W cls d σ H') := hP
        by_cases hl : ts.length < 64
        · rw [if_pos hl] at hP
          unfold rv at q1
          obtain ⟨a, vs, rfl, z, rr⟩ := q1
          have e := strs_of ht rr
          subst e
          refine cr_sortedS pins s σ H _ us Q I r ⟨a, ts.map sT, rfl, SqL.of (hS.sub _ _ z), by rw [List.length_map]; exact hl, fun zs p hp hs hn => ?_⟩
          rw [sorted_is hp hs]
          exact mk_lst hP hS (rvs_strs fun t h => strs_ok ht rr t ((sortT_perm ts).mem_iff.mp h)) p hn
        · rw [if_neg hl] at hP; exact hP.elim
    | _ => exact (show False from hP).elim
end
end Ev
set_option Elab.async false
set_option linter.all false
set_option maxRecDepth 100000
set_option maxHeartbeats 1000000
/-! E18r: repr of plain data. -/
namespace Ev
open PySem L2
open PyProof.Rows hiding St

section
variable {G : Rt} {X : Cx} {W : WX} {call : Calls}
theorem nodict_pd {G : Rt} {F : Hp} {ρ : List Addr} {H : Hp} (hs : Same F H) {p : PV} {v : V} (h : isD p = true) (q : rh G F ρ H p v) : (pd p).hasDict = false := PyData.hasDict_of_canLay _ (dp_rh hs h q).2
theorem on_repr {k : Nat} (hK : X.K = G.K) (hr : Room k X.A) (hg : X.A.guards = some []) : OpN G X W (.builtin "repr") (fun ps S => opt (bltD .repr ps S) S) := by
  intro pins s σ H xs us Q F ρ S ps I r hS q hP
  match ps, hP, q with
  | [], hP, _ => exact (show False from hP).elim
  | a :: _ :: _, hP, _ => cases a <;> exact (show False from hP).elim
  | [p], hP, q =>
    obtain ⟨v, rfl, q1⟩ := one_arg q
    obtain ⟨u, rfl, r1⟩ := vals1 r
    have hP : Post G F ρ H (opt ((thaw S p).bind reprO) S) (rv G) Q (fun cls d H' => W cls d σ H') := by cases p <;> exact hP
    cases ht : thaw S p with
    | none => rw [ht] at hP; exact hP.elim
    | some p' =>
      rw [ht] at hP
      have rh' := thaw_ok hS q1 ht
      have hP : Post G F ρ H (opt (if (isD p' && decide (dep p' ≤ 60) && (pd p').showable && decide ((pd p').shown.length ≤ lim) && okS (uT (pd p').shown)) = true then some (PV.str (uT (pd p').shown)) else none) S) (rv G) Q (fun cls d H' => W cls d σ H') := hP
      by_cases hc : (isD p' && decide (dep p' ≤ 60) && (pd p').showable && decide ((pd p').shown.length ≤ lim) && okS (uT (pd p').shown)) = true
      · rw [if_pos hc] at hP
        simp only [Bool.and_eq_true, decide_eq_true_eq] at hc
        obtain ⟨⟨⟨⟨h1, h2⟩, h3⟩, h4⟩, h5⟩ := hc
        have hsz : (pd p').shown.length ≤ sizeLine := Nat.le_trans h4 lim_line
        have fin : ∀ h' tk u, (∀ b o, s.heap.get? b = some o → h'.get? b = some o) → EP X pins σ Q (.str (pd p').shown u) { s with heap := h', toks := tk } := fun h' tk u kp =>
          ⟨.str (pd p').shown, H, I.kept kp, ⟨u, rfl⟩, hP.ok hS (by unfold rv; exact ⟨rfl, h5⟩)⟩
        have fin0 : ∀ tk u, EP X pins σ Q (.str (pd p').shown u) { s with toks := tk } := fun tk u => fin s.heap tk u fun _ _ e => e
        obtain ⟨d1, l1⟩ := dp_rh hS.sub h1 rh'
        have nd := nodict_pd hS.sub h1 rh'
        have viaRef : ∀ a, u = .ref a → wpAny (model X.prog X.w) X.A (PySem.call (.builtin "repr") [u]) (EP X pins σ Q) X.xe s := fun a e => by
          subst e
          obtain ⟨as, rd⟩ := Dp.reads I (pd p') v (.ref a) (by rw [hK]; exact d1) r1
          exact PySem.repr_of_reads' rd h3 (PyData.noDict_hsm nd) hg (by have := hr.un; rw [dep_pd p' h1]; omega) (fun _ _ e => e) (fun h' u tk kp => fin h' tk u kp) hsz
        cases p' with
        | non =>
          have e : v = .non := rh'
          subst e
          cases (show u = Value.none from r1)
          exact PySem.P.repr_of_none (fin0 _ _)
        | bl b =>
          have e : v = .bl b := rh'
          subst e
          cases (show u = Value.bool b from r1)
          exact PySem.P.repr_of_bool (fin0 _ _)
        | int i =>
          have e : v = .int i := rh'
          subst e
          obtain ⟨t, rfl⟩ := r1
          exact PySem.P.repr_of_int (by simpa [pd, PyData.showable] using h3) (fin0 _ _)
        | str x =>
          obtain ⟨e, _⟩ := (show v = .str (sT x) ∧ okS x = true from rh')
          subst e
          obtain ⟨t, rfl⟩ := r1
          exact PySem.P.repr_of_str (fin0 _ _) hsz
        | tup xs =>
          obtain ⟨a, vs, rfl, _⟩ := rh'
          exact viaRef a r1
        | lst xs =>
          obtain ⟨a, vs, rfl, _⟩ := rh'
          exact viaRef a r1
        | _ => cases h1
      · rw [if_neg hc] at hP; exact hP.elim
theorem on_reprO {fa : Nat → Addr} {k : Nat} (O : Ops G X k fa call) : OpN G X W (.builtin "repr") (bltE G.T call .repr) := by
  intro pins s σ H xs us Q F ρ S ps I r hS q hP
  match ps, hP, q with
  | [], hP, _ => exact (show False from hP).elim
  | a :: _ :: _, hP, _ => cases a <;> exact (show False from hP).elim
  | [p], hP, q =>
    cases p with
    | ins c fs =>
      obtain ⟨v, rfl, q1⟩ := one_arg q
      obtain ⟨u, rfl, r1⟩ := vals1 r
      have hP : Post G F ρ H ((callM G.T call (.ins c fs) nRepr [] S).bind fun v S => match v with
        | .str x => .ok (.str x) S
        | _ => .bad) (rv G) Q (fun cls d H' => W cls d σ H') := hP
      unfold callM at hP
      rw [bind_assoc] at hP
      obtain ⟨f, hf, hP⟩ := bindO hP
      obtain ⟨kl, hk, ok, M⟩ := meth_of O.cls hf
      obtain ⟨a, dx, vs, rfl, rfl, ha, ox, od, J⟩ := ins_look I hS q1 r1
      obtain ⟨m, hF⟩ := I.fr
      have hat := M.at_
      rw [O.nm.repr] at hat
      refine PySem.W.repr_K (Room.in1 O.room).units0 hF I.ok.mod.kin J (by rw [O.K]; exact hat) (by rw [O.K]; exact M.fn) ?_
      refine wpAny_mono (run_meth (E := fun cls d H' => W cls d σ H') (Q := fun v H' => ∃ x, v = .str (sT x) ∧ Q (.str (sT x)) H') (n := nRepr) (us := [.ref a]) (vs := [.ref a]) O.fn O.room.in1 O.gd frames_in1 I (.cons rfl .nil) hS (rvs1 q1) ?_) (fun w s' z => ?_) fun _ _ x => x
      · cases hc : call f [PV.ins c fs] S with
        | bad => rw [hc] at hP; exact hP.elim
        | exc z S1 => rw [hc] at hP; exact hP
        | ok p1 S1 =>
          rw [hc] at hP
          intro F1 ρ1 H1 v1 x1 hS1 q2
          cases p1 with
          | str x =>
            obtain ⟨e2, e3⟩ := rv_str q2
            subst e2
            exact ⟨x, rfl, hP F1 ρ1 H1 _ x1 hS1 (by unfold rv; exact ⟨rfl, e3⟩)⟩
          | _ => exact (show False from hP).elim
      · obtain ⟨v', H', I', rz, x, rfl, qz⟩ := z
        obtain ⟨t, rfl⟩ := rz
        exact ⟨.str (sT x), H', I', ⟨t, rfl⟩, qz⟩
    | non => exact on_repr (k := k + 1) O.K O.room O.gd pins s σ H xs us Q F ρ S _ I r hS q hP
    | bl _ => exact on_repr (k := k + 1) O.K O.room O.gd pins s σ H xs us Q F ρ S _ I r hS q hP
    | int _ => exact on_repr (k := k + 1) O.K O.room O.gd pins s σ H xs us Q F ρ S _ I r hS q hP
    | str _ => exact on_repr (k := k + 1) O.K O.room O.gd pins s σ H xs us Q F ρ S _ I r hS q hP
    | tup _ => exact on_repr (k := k + 1) O.K O.room O.gd pins s σ H xs us Q F ρ S _ I r hS q hP
    | lst _ => exact on_repr (k := k + 1) O.K O.room O.gd pins s σ H xs us Q F ρ S _ I r hS q hP
    | dct _ _ => exact on_repr (k := k + 1) O.K O.room O.gd pins s σ H xs us Q F ρ S _ I r hS q hP
    | cell _ => exact on_repr (k := k + 1) O.K O.room O.gd pins s σ H xs us Q F ρ S _ I r hS q hP
    | obj _ => exact on_repr (k := k + 1) O.K O.room O.gd pins s σ H xs us Q F ρ S _ I r hS q hP
    | ex _ _ => exact on_repr (k := k + 1) O.K O.room O.gd pins s σ H xs us Q F ρ S _ I r hS q hP
end
end Ev
set_option Elab.async false
set_option linter.all false
set_option maxRecDepth 100000
set_option maxHeartbeats 1000000
/-! E19: what the text's form must be, as tests; rev, freeze. -/
namespace Ev
open PySem L2
open PyProof.Rows hiding St

def noComp : Expr → Bool
  | .ListComp _ _ _ _ => false
  | .SetComp _ _ _ _ => false
  | .DictComp _ _ _ _ _ => false
  | _ => true
def noTup : Expr → Bool
  | .Tuple _ _ _ => false
  | .List _ _ => false
  | .Starred _ _ => false
  | _ => true
def noSlice : Expr → Bool
  | .Slice _ _ _ _ => false
  | _ => true
def noSet : Expr → Bool
  | .Set _ _ _ => false
  | _ => true
def noCall0 : Expr → Bool
  | .Call (.Name x _) [] [] _ => !(x == ("super" : Str))
  | _ => true
theorem sole_no {tg a : Expr} {l : Nat} {env : PySem.Env} (h : noComp a = true) : swapsWithSole [tg] a l env = pure false := by
  cases a <;> first | rfl | cases h
theorem swap_no {tg : Option Expr} {a : Expr} {l : Nat} {env : PySem.Env} (h : noComp a = true) : swapsWith a tg l env = pure false := by
  cases a <;> first | rfl | cases h
theorem swapped_no {tg a : Expr} {env : PySem.Env} (h : noTup tg = true) : swappedStores [tg] a env = pure none := by
  cases tg <;> first | rfl | cases h
theorem swapped_no2 {tg a : Expr} {env : PySem.Env} (h : noTup a = true) : swappedStores [tg] a env = pure none := by
  cases tg <;> first | rfl | (cases a <;> first | rfl | cases h)
theorem each_one {tg : Expr} {env : PySem.Env} (h : nostar tg = true) : (assignEach [tg] env).map (·.2) = [assign tg env] := by
  cases tg <;> first | rfl | cases h
theorem plain_ix {b : Expr} (h : noSlice b = true) : PlainIx b := by
  intro o i
  cases b <;> first | rfl | cases h
theorem asg_ix {a b : Expr} {pos : Pos} {env : PySem.Env} (h : noSlice b = true) (v : Value) : assign (.Subscript a b pos) env v = (do
      let ov ← holding [v] (eval a env)
      let iv ← holding [v, ov] (eval b env)
      standAt pos
      holding [v, ov, iv] (setItem ov iv v)
      release [v, ov, iv] []) := by
  cases b <;> first | rfl | cases h
theorem base_no {o : Expr} {n : Str} {env : PySem.Env} {w : Sem Value} (h : noCall0 o = true) : attributeBase o n env w = w := by
  cases o with
  | Call f as ks p =>
    cases f with
    | Name x q =>
      cases as with
      | nil =>
        cases ks with
        | nil =>
          have hx : (x == ("super" : Str)) = false := by
            have h : (!(x == ("super" : Str))) = true := h
            cases hb : (x == ("super" : Str)) with
            | false => rfl
            | true => rw [hb] at h; cases h
          unfold attributeBase
          dsimp only
          have c : (x != ("super" : Str) || n == ("__class__" : Str) || env.kindOf ("super" : Str) != some .globalImplicit || env.kindOf ("__class__" : Str) != some .free) = true := by
            show (!(x == ("super" : Str)) || _ || _ || _) = true
            rw [hx]; simp
          rw [if_pos c]
        | cons _ _ => rfl
      | cons _ _ => rfl
    | _ => rfl
  | _ => rfl
theorem marks_no {op : CmpOp} {b : Expr} (h : noSet b = true) : behindInMarks op b = false := by
  cases b <;> first | rfl | cases h
theorem set_no {a : Expr} {env : PySem.Env} (h : noSet a = true) (x : Value) : foldedSetIterable a env x = pure x := by
  cases a <;> first | rfl | cases h
theorem form_ok {es : List Expr} {pos : Pos} {env : PySem.Env} (hst : es.all nostar = true) (hl : es.length < 30) : methodCallForm (es.length + ([] : List Keyword).length) (backTo pos (starEach es env)) (backToKw pos (keywordEach [] env)) = true := by
  have h1 : (backTo pos (starEach es env)).all (!·.1) = true := by
    clear hl
    induction es with
    | nil => rfl
    | cons a r ih =>
      have h' := Bool.and_eq_true_iff.mp (List.all_cons ▸ hst)
      rw [star_no h'.1]
      show (true && (backTo pos (starEach r env)).all (!·.1)) = true
      rw [ih h'.2]; rfl
  unfold methodCallForm
  rw [h1]
  show (true && true && decide (es.length + 0 + (if (true : Bool) then 0 else 1) < 30)) = true
  simp [hl]
theorem ht_of {o : Expr} {m : Str} {es : List Expr} {apos pos : Pos} {env : PySem.Env} (hb : attributeBase o m env (eval o env) = eval o env) (hst : es.all nostar = true) (hl : es.length < 30) (hline : (apos.endLine == pos.line) = true) :
    eval (.Call (.Attribute o m apos) es [] pos) env = (do
      let ov ← eval o env
      standAt apos.atName
      let (f, first) ← holding [ov] (getMethod ov m (do return (← importBound o env).getD true))
      callWith pos f first (backTo pos (starEach es env)) (backToKw pos (keywordEach [] env))) := by
  rw [arm_eval_Call, hb]
  have e1 : ∀ ov, methodCall o m apos pos env ov (es.length + ([] : List Keyword).length) (backTo pos (starEach es env)) (backToKw pos (keywordEach [] env)) = (do
      let (f, first) ← holding [ov] (getMethod ov m (do return (← importBound o env).getD true))
      callWith pos f first (backTo pos (starEach es env)) (backToKw pos (keywordEach [] env))) := fun ov => by
    unfold methodCall
    rw [form_ok hst hl]
    have e2 : methodCallPos true o env apos pos = pure pos := by
      unfold methodCallPos
      rw [hline]
      rfl
    rw [e2]
    rfl
  simp only [e1]
section
variable {G : Rt} {X : Cx} {W : WX} {pins : List (Addr × Obj)} {σ : Slots} {H : Hp} {s : Shared} {F : Hp} {ρ : List Addr} {e : Env} {S : Store} {pos : Pos} {k : Nat} {fa : Nat → Addr} {call : Calls}
theorem se_freeze {a : Expr} {x : Env → Store → R PV} (ha : PE X a (tE G W x)) : PE X a (tE G W fun e S => (x e S).bind fun p S => freezeR p S) := by
  refine ⟨fun pins s σ H Q I ⟨F, ρ, e, S, hS, hE, hP⟩ => ha.run pins s σ H Q I ⟨F, ρ, e, S, hS, hE, ?_⟩⟩
  dsimp only at hP
  cases hx : x e S with
  | bad => rw [hx] at hP; exact hP.elim
  | exc z S1 => rw [hx] at hP; exact hP
  | ok p S1 =>
    rw [hx] at hP
    intro F1 ρ1 H1 v x1 hS1 q1
    have hP1 := Post.mono x1 hP
    simp only [bind_ok] at hP1
    cases p with
    | cell i =>
      have q2 := q1
      unfold rv at q2
      obtain ⟨a, rfl, hi⟩ := q2
      unfold freezeR at hP1
      dsimp only at hP1
      cases hc : S1[i]? with
      | none => rw [hc] at hP1; exact hP1.elim
      | some c =>
        rw [hc] at hP1
        cases c with
        | lst xs =>
          obtain ⟨vs, ho, rr⟩ := hS1.at_ i _ a hc hi
          obtain ⟨s2, x2⟩ := hS1.freezeX hi hc (fun z => by cases z) ho
          refine hP1 _ _ _ _ x2 s2 ?_
          unfold rv
          exact ⟨a, vs, rfl, upd_same, rvs_ext x2 _ _ rr⟩
        | dct ks xs =>
          obtain ⟨vs, ho, l, n, kk, rr⟩ := hS1.at_ i _ a hc hi
          obtain ⟨s2, x2⟩ := hS1.freezeX hi hc (fun z => by cases z) ho
          refine hP1 _ _ _ _ x2 s2 ?_
          unfold rv
          exact ⟨a, vs, rfl, .inl upd_same, l, n, kk, rvs_ext x2 _ _ rr⟩
        | _ => exact (show False from hP1).elim
    | _ => exact hP1.ok hS1 q1
end
end Ev
set_option Elab.async false
set_option linter.all false
set_option maxRecDepth 100000
set_option maxHeartbeats 1000000
/-! E19k: calls with keywords. -/
namespace Ev
open PySem L2
open PyProof.Rows hiding St

theorem form_okK {es : List Expr} {ks : List Keyword} {pos : Pos} {env : PySem.Env} (hst : es.all nostar = true) (hk : ks.all (·.arg.isSome) = true) (hl : es.length + ks.length < 29) : methodCallForm (es.length + ks.length) (backTo pos (starEach es env)) (backToKw pos (keywordEach ks env)) = true := by
  have h1 : (backTo pos (starEach es env)).all (!·.1) = true := by
    clear hl
    induction es with
    | nil => rfl
    | cons a r ih =>
      have h' := Bool.and_eq_true_iff.mp (List.all_cons ▸ hst)
      rw [star_no h'.1]
      show (true && (backTo pos (starEach r env)).all (!·.1)) = true
      rw [ih h'.2]; rfl
  have h2 : (backToKw pos (keywordEach ks env)).all (·.1.isSome) = true := by
    clear hl
    induction ks with
    | nil => rfl
    | cons a r ih =>
      obtain ⟨nm, a, kp⟩ := a
      have h' := Bool.and_eq_true_iff.mp (List.all_cons ▸ hk)
      show (nm.isSome && (backToKw pos (keywordEach r env)).all (·.1.isSome)) = true
      rw [ih h'.2]
      simpa using h'.1
  unfold methodCallForm
  rw [h1, h2]
  have : (if (backToKw pos (keywordEach ks env)).isEmpty = true then 0 else 1) ≤ 1 := by split <;> omega
  simp only [Bool.and_self, Bool.true_and, decide_eq_true_eq]
  omega
theorem ht_ofK {o : Expr} {m : Str} {es : List Expr} {ks : List Keyword} {apos pos : Pos} {env : PySem.Env} (hb : attributeBase o m env (eval o env) = eval o env) (hst : es.all nostar = true) (hk : ks.all (·.arg.isSome) = true) (hl : es.length + ks.length < 29) (hline : (apos.endLine == pos.line) = true) :
    eval (.Call (.Attribute o m apos) es ks pos) env = (do
      let ov ← eval o env
      standAt apos.atName
      let (f, first) ← holding [ov] (getMethod ov m (do return (← importBound o env).getD true))
      callWith pos f first (backTo pos (starEach es env)) (backToKw pos (keywordEach ks env))) := by
  rw [arm_eval_Call, hb]
  have e1 : ∀ ov, methodCall o m apos pos env ov (es.length + ks.length) (backTo pos (starEach es env)) (backToKw pos (keywordEach ks env)) = (do
      let (f, first) ← holding [ov] (getMethod ov m (do return (← importBound o env).getD true))
      callWith pos f first (backTo pos (starEach es env)) (backToKw pos (keywordEach ks env))) := fun ov => by
    unfold methodCall
    rw [form_okK hst hk hl]
    have e2 : methodCallPos true o env apos pos = pure pos := by
      unfold methodCallPos
      rw [hline]
      rfl
    rw [e2]
    rfl
  simp only [e1]
def permL {α : Type} (perm : List Nat) (vs : List α) : List α := match perm with
  | [] => vs
  | p :: r => (p :: r).filterMap fun j => vs[j]?
theorem permV_L (perm : List Nat) (vs : List PV) : permV perm vs = permL perm vs := by cases perm <;> rfl
theorem vals_get {vs : List V} {us : List Value} (h : Vals vs us) : ∀ {i : Nat} {v : V}, vs[i]? = some v → ∃ u, us[i]? = some u ∧ RelV v u := by
  induction h with
  | nil => intro i v e; simp at e
  | cons a b ih =>
    intro i v e
    cases i with
    | zero => cases e; exact ⟨_, rfl, a⟩
    | succ i => exact ih e
theorem vals_perm {vs : List V} {us : List Value} (h : Vals vs us) (perm : List Nat) : Vals (permL perm vs) (permL perm us) := by
  have key : ∀ l : List Nat, Vals (l.filterMap fun j => vs[j]?) (l.filterMap fun j => us[j]?) := by
    intro l
    induction l with
    | nil => exact .nil
    | cons j l ih =>
      rw [List.filterMap_cons, List.filterMap_cons]
      cases hj : vs[j]? with
      | none =>
        have : us[j]? = none := by
          rw [List.getElem?_eq_none_iff] at hj ⊢
          rw [← h.length]; exact hj
        rw [this]; exact ih
      | some v =>
        obtain ⟨u, hu, r⟩ := vals_get h hj
        rw [hu]
        exact .cons r ih
  cases perm with
  | nil => exact h
  | cons p r => exact key (p :: r)
section
variable {G : Rt} {F : Hp} {ρ : List Addr}
theorem rvs_perm {ps : List PV} {vs : List V} (h : rvs G F ρ ps vs) (perm : List Nat) : rvs G F ρ (permL perm ps) (permL perm vs) := by
  have key : ∀ l : List Nat, rvs G F ρ (l.filterMap fun j => ps[j]?) (l.filterMap fun j => vs[j]?) := by
    intro l
    induction l with
    | nil => unfold rvs; rfl
    | cons j l ih =>
      rw [List.filterMap_cons, List.filterMap_cons]
      cases hj : ps[j]? with
      | none =>
        have : vs[j]? = none := by
          rw [List.getElem?_eq_none_iff] at hj ⊢
          rw [← rvs_len h]; exact hj
        rw [this]; exact ih
      | some v =>
        obtain ⟨u, hu, r⟩ := rvs_get h hj
        rw [hu]
        unfold rvs
        exact ⟨_, _, rfl, r, ih⟩
  cases perm with
  | nil => exact h
  | cons p r => exact key (p :: r)
end
/-- what a call with keywords asks of the text -/
structure KwOk (G : Rt) (fa : Nat → Addr) (ki : Kwi) : Prop where
  to : ∃ dv dV, rvs G (fun _ => none) [] ki.d dv ∧ Vals dv dV ∧ ∀ us ws : List Value, us.length = ki.n → ws.length = ki.ks.length → ArrK G.K (fa ki.f) us (ki.ks.zip ws) (permL ki.perm (us ++ ws ++ dV))
section
variable {G : Rt} {X : Cx} {W : WX} {pins : List (Addr × Obj)} {σ : Slots} {H : Hp} {s : Shared} {F : Hp} {ρ : List Addr} {e : Env} {S : Store} {pos : Pos} {k : Nat} {fa : Nat → Addr} {call : Calls}
theorem stepK {γ β : Type} {rel : Hp → List Addr → γ → β → Prop} {Q : β → Hp → Prop} {a : List Keyword} {x : Env → Store → R (List PV)} (h : PK X a (tL G W x)) (I : Inv X pins σ H s) (hS : SR G F ρ H S) (hE : rE G F ρ e σ) {f : List PV → Store → R γ}
    (hP : Post G F ρ H ((x e S).bind f) rel Q (fun cls d H' => W cls d σ H')) {P : List Value → Shared → Prop} (pos : Pos)
    (k : ∀ p S1 F1 ρ1 H1 v u s1, Inv X pins σ H1 s1 → Vals v u → SR G F1 ρ1 H1 S1 → Ext F ρ H F1 ρ1 H1 → rE G F1 ρ1 e σ → rvs G F1 ρ1 p v → Post G F1 ρ1 H1 (f p S1) rel Q (fun cls d H' => W cls d σ H') → P u s1) :
    wpAny (model X.prog X.w) X.A (evalAll ((backToKw pos (keywordEach a X.env)).map (·.2))) P X.xe s := by
  refine thn (h.run pos pins s σ H (fun v H1 => ∃ p S1 F1 ρ1, SR G F1 ρ1 H1 S1 ∧ Ext F ρ H F1 ρ1 H1 ∧ rvs G F1 ρ1 p v ∧ Post G F1 ρ1 H1 (f p S1) rel Q (fun cls d H' => W cls d σ H')) I ⟨F, ρ, e, S, hS, hE, ?_⟩) fun u s1 ⟨v, H1, I1, r, p, S1, F1, ρ1, a1, a2, a4, a5⟩ => k p S1 F1 ρ1 H1 v u s1 I1 r a1 a2 (rE_ext a2 hE) a4 a5
  cases hx : x e S with
  | ok p S1 =>
    rw [hx] at hP
    exact fun F1 ρ1 H1 v x1 s1 q => ⟨p, S1, F1, ρ1, s1, x1, q, Post.mono x1 hP⟩
  | exc z S1 => rw [hx] at hP; exact hP
  | bad => rw [hx] at hP; exact hP.elim
theorem spk_nil : PK X [] (tL G W fun _ S => .ok [] S) := ⟨fun pos pins s σ H Q I ⟨F, ρ, e, S, hS, hE, hP⟩ => wpAny_evalAll_nil ⟨[], H, I, .nil, hP F ρ H [] .refl hS (by unfold rvs; rfl)⟩⟩
theorem spk_cons {nm : Option Str} {a : Expr} {kpos : Pos} {kws : List Keyword} {x : Env → Store → R PV} {l : Env → Store → R (List PV)} (ha : PE X a (tE G W x)) (hr : PK X kws (tL G W l)) :
    PK X (⟨nm, a, kpos⟩ :: kws) (tL G W fun e S => (x e S).bind fun p S => (l e S).bind fun ps S => .ok (p :: ps) S) := by
  refine ⟨fun pos pins s σ H Q I ⟨F, ρ, e, S, hS, hE, hP⟩ => ?_⟩
  show wpAny _ _ (evalAll ((do let v ← eval a X.env; standAt pos; pure v) :: (backToKw pos (keywordEach kws X.env)).map (·.2))) _ _ s
  refine wpAny_evalAll_cons (wpAny_bind (stepE ha I hS hE hP fun p S1 F1 ρ1 H1 v u s1 I1 r1 hS1 x1 hE1 q1 hP1 => wpAny_bind (wpAny_standAt (wpAny_pure ?_))))
  refine stepK hr I1 hS1 hE1 hP1 pos fun ps S2 F2 ρ2 H2 vs us s2 I2 r2 hS2 x2 hE2 q2 hP2 => ?_
  exact ⟨v :: vs, H2, I2, .cons r1 r2, hP2 F2 ρ2 H2 (v :: vs) .refl hS2 (by unfold rvs; exact ⟨_, _, rfl, rv_ext x2 _ _ q1, q2⟩)⟩
/-- the positional values of a call, with keywords behind -/
def pre0 (es : List Expr) : Bool := es.all nostar
theorem callK_run {es : List Expr} {kws : List Keyword} {l kl : Env → Store → R (List PV)} {j : Nat} {ki : Kwi} {first : List Value} {f0 : List PV} {v0 : List V} {Q : VK} (hK : X.K = G.K) (hkp : PySem.W.keepIn X.K (.ref (fa ki.f)) = true)
    (hj : G.T.kws[j]? = some ki) (ko : KwOk G fa ki) (Fn : ∀ f, FnG X.prog X.w X.K X.mg X.base k (fa f) (spC G (call f))) (hr : Room k X.A) (hgd : X.A.guards = some [])
    (hst : es.all nostar = true) (hl : PA X es (tL G W l)) (hk : PK X kws (tL G W kl)) (hks : kws.map (·.arg) = ki.ks.map some)
    (I : Inv X pins σ H s) (hS : SR G F ρ H S) (hE : rE G F ρ e σ) (hf : Vals v0 first) (q0 : rvs G F ρ f0 v0)
    (hP : Post G F ρ H ((l e S).bind fun ps S => (kl e S).bind fun qs S => callK G.T call j (f0 ++ ps) qs S) (rv G) Q (fun cls d H' => W cls d σ H')) :
    wpAny (model X.prog X.w) X.A (callWith pos (.ref (fa ki.f)) first (backTo pos (starEach es X.env)) (backToKw pos (keywordEach kws X.env))) (EP X pins σ Q) X.xe s := by
  have names : (backToKw pos (keywordEach kws X.env)).map (·.1) = kws.map (·.arg) := by
    clear hk hks
    induction kws with
    | nil => rfl
    | cons a r ih =>
      obtain ⟨nm, a, kp⟩ := a
      show nm :: (backToKw pos (keywordEach r X.env)).map (·.1) = _
      rw [ih]; rfl
  have hall : (backToKw pos (keywordEach kws X.env)).all (·.1.isSome) = true := by
    rw [List.all_eq_true]
    intro z hz
    have : z.1 ∈ (backToKw pos (keywordEach kws X.env)).map (·.1) := List.mem_map.mpr ⟨z, hz, rfl⟩
    rw [names, hks] at this
    obtain ⟨y, _, e⟩ := List.mem_map.mp this
    rw [← e]; rfl
  have hany : (backToKw pos (keywordEach kws X.env)).any (·.1.isNone) = false := by
    rw [List.any_eq_false]
    intro z hz
    have := List.all_eq_true.mp hall z hz
    cases hz1 : z.1 with
    | none => rw [hz1] at this; cases this
    | some y => simp
  have hks2 : (backToKw pos (keywordEach kws X.env)).filterMap (·.1) = ki.ks := by
    have : (backToKw pos (keywordEach kws X.env)).filterMap (·.1) = ((backToKw pos (keywordEach kws X.env)).map (·.1)).filterMap id := by rw [List.filterMap_map]; rfl
    rw [this, names, hks, List.filterMap_map]
    exact List.filterMap_some
  obtain ⟨dv, dV, rd, rD, arr⟩ := ko.to
  have fin : ∀ ps qs S2 F2 ρ2 H2 vs zs us ws s2, Inv X pins σ H2 s2 → Vals vs us → Vals zs ws → SR G F2 ρ2 H2 S2 → Ext F ρ H F2 ρ2 H2 → rvs G F2 ρ2 ps vs → rvs G F2 ρ2 qs zs → Post G F2 ρ2 H2 (callK G.T call j (f0 ++ ps) qs S2) (rv G) Q (fun cls d H' => W cls d σ H') →
      X.K.In s2.heap ∧ wpAny (model X.prog X.w) X.A (PySem.call (.ref (fa ki.f)) (first ++ us) (((backToKw pos (keywordEach kws X.env)).filterMap (·.1)).zip ws)) (EP X pins σ Q) X.xe s2 := fun ps qs S2 F2 ρ2 H2 vs zs us ws s2 I2 r1 r2 hS2 x2 q1 q2 hP2 => by
    refine ⟨I2.kIn, ?_⟩
    rw [hks2]
    unfold callK at hP2
    rw [hj] at hP2
    dsimp only at hP2
    by_cases hn : ((ki.n == (f0 ++ ps).length) && (ki.ks.length == qs.length)) = true
    · rw [if_pos hn] at hP2
      simp only [Bool.and_eq_true, beq_iff_eq] at hn
      have q0' := rvs_ext x2 _ _ q0
      have l1 : (first ++ us).length = ki.n := by rw [hn.1, List.length_append, List.length_append, ← hf.length, ← r1.length, rvs_len q0, rvs_len q1]
      have l2 : ws.length = ki.ks.length := by rw [hn.2, ← r2.length, rvs_len q2]
      have ar := arr (first ++ us) ws l1 l2
      have rr : Vals (permL ki.perm (v0 ++ vs ++ zs ++ dv)) (permL ki.perm (first ++ us ++ ws ++ dV)) := vals_perm (((hf.append r1).append r2).append rD) _
      have rdd : rvs G F2 ρ2 ki.d dv := rvs_mono (fun a o z => by cases z) List.nil_prefix _ _ rd
      refine run_evK (Fn ki.f) hr hgd I2 (by rw [hK]; exact ar) rr hS2 ?_ hP2
      rw [permV_L]
      exact rvs_perm (rvs_app (rvs_app (rvs_app q0' q1) q2) rdd) _
    · rw [if_neg hn] at hP2; exact hP2.elim
  cases es with
  | nil =>
    have hl0 : ∃ S1, True := ⟨S, trivial⟩
    refine PySem.W.callWith_KW0 (h₀ := X.base) I.ok.mod.kin hkp hall ?_ (by show ((backTo pos (starEach [] X.env)).any (·.1) || (backToKw pos (keywordEach kws X.env)).any (·.1.isNone)) = false; rw [hany]; rfl)
    have go := stepL hl I hS hE hP pos (P := fun us s1 => us = [] → wpAny (model X.prog X.w) X.A (evalAll ((backToKw pos (keywordEach kws X.env)).map (·.2)))
      (fun ks s₂ => X.K.In s₂.heap ∧ wpAny (model X.prog X.w) X.A (PySem.call (.ref (fa ki.f)) (first ++ []) (((backToKw pos (keywordEach kws X.env)).filterMap (·.1)).zip ks)) (EP X pins σ Q) X.xe s₂) X.xe s1)
      fun ps S1 F1 ρ1 H1 vs us s1 I1 r1 hS1 x1 hE1 q1 hP1 hus => by
        subst hus
        exact stepK hk I1 hS1 hE1 hP1 pos fun qs S2 F2 ρ2 H2 zs ws s2 I2 r2 hS2 x2 hE2 q2 hP2 => fin ps qs S2 F2 ρ2 H2 vs zs [] ws s2 I2 r1 r2 hS2 (x1.trans x2) (rvs_ext x2 _ _ q1) q2 hP2
    have go2 : wpAny (model X.prog X.w) X.A (pure [] : Sem (List Value)) (fun us s1 => us = [] → wpAny (model X.prog X.w) X.A (evalAll ((backToKw pos (keywordEach kws X.env)).map (·.2)))
      (fun ks s₂ => X.K.In s₂.heap ∧ wpAny (model X.prog X.w) X.A (PySem.call (.ref (fa ki.f)) (first ++ []) (((backToKw pos (keywordEach kws X.env)).filterMap (·.1)).zip ks)) (EP X pins σ Q) X.xe s₂) X.xe s1) X.xe s := go
    exact fun Γ p hΓ => go2 Γ p hΓ rfl Γ p hΓ
  | cons a r =>
    have hst' := Bool.and_eq_true_iff.mp (List.all_cons ▸ hst)
    refine PySem.W.callWith_KW (h₀ := X.base) I.ok.mod.kin hkp hall (stepL hl I hS hE hP pos fun ps S1 F1 ρ1 H1 vs us s1 I1 r1 hS1 x1 hE1 q1 hP1 => ?_) (by rw [star_any_false hst, hany]; rfl) (star_no hst'.1)
    exact stepK hk I1 hS1 hE1 hP1 pos fun qs S2 F2 ρ2 H2 zs ws s2 I2 r2 hS2 x2 hE2 q2 hP2 => fin ps qs S2 F2 ρ2 H2 vs zs us ws s2 I2 r1 r2 hS2 (x1.trans x2) (rvs_ext x2 _ _ q1) q2 hP2
/-- f(.., k = v) -/
theorem se_callK {x : Str} {p : Pos} {es : List Expr} {kws : List Keyword} {l kl : Env → Store → R (List PV)} {j : Nat} {ki : Kwi} (hK : X.K = G.K) (hj : G.T.kws[j]? = some ki) (ko : KwOk G fa ki) (Fn : ∀ f, FnG X.prog X.w X.K X.mg X.base k (fa f) (spC G (call f))) (hr : Room k X.A) (hgd : X.A.guards = some [])
    (hg : Gl X x) (hm : X.mg x = some (.ref (fa ki.f))) (hkp : PySem.W.keepIn X.K (.ref (fa ki.f)) = true) (hd : (x == ("__debug__" : Str)) = false) (hst : es.all nostar = true) (hl : PA X es (tL G W l)) (hk : PK X kws (tL G W kl)) (hks : kws.map (·.arg) = ki.ks.map some) :
    PE X (.Call (.Name x p) es kws pos) (tE G W fun e S => (l e S).bind fun ps S => (kl e S).bind fun qs S => callK G.T call j ps qs S) := by
  refine ⟨fun pins s σ H Q I ⟨F, ρ, e, S, hS, hE, hP⟩ => ?_⟩
  refine wpAny_Call_Name_kw (ld_glob I hg hm ?_ hd)
  exact callK_run (f0 := []) (v0 := []) (first := []) hK hkp hj ko Fn hr hgd hst hl hk hks I hS hE .nil (by unfold rvs; rfl) hP
/-- o.m(.., k = v) -/
theorem se_methK {a : Expr} {n : Nat} {x : Env → Store → R PV} {es : List Expr} {kws : List Keyword} {l kl : Env → Store → R (List PV)} {j : Nat} {ki : Kwi} {apos : Pos} {pl : Sem Bool} (hK : X.K = G.K) (hcl : ∀ c kl, G.T.cls[c]? = some kl → ClsOk G fa c kl) (hj : G.T.kws[j]? = some ki) (ko : KwOk G fa ki) (Fn : ∀ f, FnG X.prog X.w X.K X.mg X.base k (fa f) (spC G (call f))) (hr : Room k X.A) (hgd : X.A.guards = some [])
    (ha : PE X a (tE G W x)) (hst : es.all nostar = true) (hl : PA X es (tL G W l)) (hk : PK X kws (tL G W kl)) (hks : kws.map (·.arg) = ki.ks.map some)
    (ht : eval (.Call (.Attribute a (G.nm n) apos) es kws pos) X.env = (do
      let ov ← eval a X.env
      standAt apos.atName
      let (f, first) ← holding [ov] (getMethod ov (G.nm n) pl)
      callWith pos f first (backTo pos (starEach es X.env)) (backToKw pos (keywordEach kws X.env)))) :
    PE X (.Call (.Attribute a (G.nm n) apos) es kws pos) (tE G W fun e S => (x e S).bind fun p S => (opt (methF G.T p n S) S).bind fun f S => if isK G.T j f then (l e S).bind fun ps S => (kl e S).bind fun qs S => callK G.T call j (p :: ps) qs S else .bad) := by
  refine ⟨fun pins s σ H Q I ⟨F, ρ, e, S, hS, hE, hP⟩ => ?_⟩
  refine PySem.W.methodCall_KW (pl := pl) (stepE ha I hS hE hP fun p S1 F1 ρ1 H1 v u s1 I1 r1 hS1 x1 hE1 q1 hP1 => ?_) ht
  unfold methF at hP1
  cases hc : insC S1 p with
  | none => rw [hc] at hP1; exact hP1.elim
  | some cf =>
    obtain ⟨c, fs⟩ := cf
    rw [hc] at hP1
    dsimp only at hP1
    obtain ⟨b, dx, vs, rfl, hb1, hlen, rr⟩ := ins_at hS1 q1 hc
    obtain rfl : u = Value.ref b := r1
    cases hk' : G.T.cls[c]? with
    | none =>
      have e1 : methOf G.T c n = none := by unfold methOf; rw [hk']; rfl
      rw [e1] at hP1; exact hP1.elim
    | some cl =>
      have ok := hcl c cl hk'
      have e1 : methOf G.T c n = cl.meths.lookup n := by unfold methOf; rw [hk']; rfl
      rw [e1] at hP1
      cases hm : cl.meths.lookup n with
      | none => rw [hm] at hP1; exact hP1.elim
      | some f =>
        rw [hm] at hP1
        simp only [opt_some, bind_ok] at hP1
        obtain ⟨M, hno⟩ := ok.met n f hm
        rw [fields_eq hk'] at hb1
        refine getmeth_ok I1 hb1 (by rw [hK]; exact ok.cl) (by rw [hK]; exact M) (lookup_no hno) ?_
        by_cases hf : isK G.T j f = true
        · have e2 : ki.f = f := by
            unfold isK at hf
            rw [hj] at hf
            simpa using hf
          rw [if_pos hf] at hP1
          subst e2
          exact callK_run (f0 := [p]) (v0 := [.ref b]) (first := [.ref b]) hK (by rw [hK]; exact M.kp) hj ko Fn hr hgd hst hl hk hks I1 hS1 hE1 (.cons rfl .nil) (by unfold rvs; exact ⟨_, _, rfl, q1, by unfold rvs; rfl⟩) hP1
        · rw [if_neg hf] at hP1
          exact hP1.elim
end
end Ev
set_option Elab.async false
set_option linter.all false
set_option maxRecDepth 100000
set_option maxHeartbeats 1000000
/-! E19a: methods of lists that change; sorted of a dict. -/
namespace Ev
open PySem L2
open PyProof.Rows hiding St

section
variable {G : Rt} {X : Cx} {W : WX} {pins : List (Addr × Obj)} {σ : Slots} {H : Hp} {s : Shared} {F : Hp} {ρ : List Addr} {e : Env} {S : Store} {pos : Pos} {k : Nat} {fa : Nat → Addr} {call : Calls}
/-- a method of a list that changes, one argument -/
theorem se_lm1 {m : Mth} {id : String} {name : Str} {o a : Expr} {apos : Pos} {r : V → List V → Hp → VK → Prop} {x y : Env → Store → R PV} (slot : Slot "list" name id) (ty : typeOf (.builtin id) = pure (.type "method_descriptor")) (rule : MtR X id r)
    (hpre : ∀ p S, mthPre m p S = true → ∃ i xs, p = .cell i ∧ S[i]? = some (.lst xs)) (ho : PE X o (tE G W x)) (ha : PE X a (tE G W y)) (hn : nostar a = true) (hbase : attributeBase o name X.env (eval o X.env) = eval o X.env) (hline : (apos.endLine == pos.line) = true)
    (key : ∀ (F : Hp) (ρ : List Addr) (H : Hp) (S : Store) (Q : VK) (W : XK) (i : Nat) (b : Addr) (q : PV) (w : V), SR G F ρ H S → ρ[i]? = some b → rv G F ρ q w → Post G F ρ H (mthE m (.cell i) [q] S) (rv G) Q W → r (.ref b) [w] H Q) :
    PE X (.Call (.Attribute o name apos) [a] [] pos) (tE G W (mthC m x (consL y fun _ S => .ok [] S))) := by
  refine ⟨fun pins s σ H Q I ⟨F, ρ, e, S, hS, hE, hP⟩ => (pe_bm PySem.F.plainAttrs_list slot ty rule ho (pa_cons ha pa_nil (star_no hn)) hbase (form_ok (es := [a]) (by rw [List.all_cons, hn]; rfl) (by simp)) hline (star_no hn) rfl).run pins s σ H Q I ⟨F, ρ, e, S, hS, hE, ?_⟩⟩
  unfold mthC at hP
  cases hx : x e S with
  | bad => rw [hx] at hP; exact hP.elim
  | exc z S1 => rw [hx] at hP; exact hP
  | ok p S1 =>
    rw [hx] at hP
    simp only [bind_ok] at hP
    intro F1 ρ1 H1 v x1 hS1 q1
    by_cases hp : mthPre m p S1 = true
    · rw [if_pos hp] at hP
      obtain ⟨i, xs, rfl, hi⟩ := hpre p S1 hp
      unfold rv at q1
      obtain ⟨b, rfl, hb⟩ := q1
      obtain ⟨vs, hv, _⟩ := hS1.at_ i _ b hi hb
      refine ⟨.inl ⟨rfl, vs, SqL.of hv⟩, ?_⟩
      have hP1 := Post.mono x1 hP
      unfold consL at hP1
      refine ⟨F1, ρ1, e, S1, hS1, rE_ext x1 hE, ?_⟩
      cases hy : y e S1 with
      | bad => rw [hy] at hP1; exact hP1.elim
      | exc z S2 => rw [hy] at hP1; exact hP1
      | ok q S2 =>
        rw [hy] at hP1
        simp only [bind_ok] at hP1
        intro F2 ρ2 H2 w x2 hS2 q2
        exact key F2 ρ2 H2 S2 Q _ i b q w hS2 (pre_get x2.r hb) q2 (Post.mono x2 hP1)
    · rw [if_neg hp] at hP; exact hP.elim
theorem se_append {o a : Expr} {apos : Pos} {x y : Env → Store → R PV} (ho : PE X o (tE G W x)) (ha : PE X a (tE G W y)) (hn : nostar a = true) (hbase : attributeBase o "append" X.env (eval o X.env) = eval o X.env) (hline : (apos.endLine == pos.line) = true) :
    PE X (.Call (.Attribute o "append" apos) [a] [] pos) (tE G W (mthC .append x (consL y fun _ S => .ok [] S))) := by
  refine se_lm1 (m := .append) PySem.F.slot_list_append PySem.F.type_list_append mt_append (fun p S h => ?_) ho ha hn hbase hline fun F ρ H S Q W i b q w hS hb q2 hP => ?_
  · cases p <;> first | cases h | skip
    rename_i i
    have h : (match S[i]? with | some (.lst _) => true | _ => false) = true := h
    cases hi : S[i]? with
    | none => rw [hi] at h; cases h
    | some c =>
      rw [hi] at h
      cases c with
      | lst xs => exact ⟨i, xs, rfl, hi⟩
      | _ => cases h
  · have hP : Post G F ρ H (match (match S[i]? with
        | some (.lst xs) => if xs.length < lim then some (PV.non, S.set i (.lst (xs ++ [q]))) else none
        | _ => none) with
      | some (q, S') => R.ok q S'
      | none => .bad) (rv G) Q W := hP
    cases hi : S[i]? with
    | none => rw [hi] at hP; exact hP.elim
    | some c =>
      rw [hi] at hP
      cases c with
      | lst xs =>
        dsimp only at hP
        by_cases hl : xs.length < lim
        · rw [if_pos hl] at hP
          obtain ⟨vs, hv, rr⟩ := hS.at_ i _ b hi hb
          obtain ⟨s4, x4⟩ := hS.writeX (c := .lst (xs ++ [q])) (o := .lst (vs ++ [w])) hb hi (fun z => by cases z) ⟨_, rfl, rvs_app rr (rvs1 q2)⟩
          exact ⟨b, vs, w, rfl, rfl, hv, by rw [← rvs_len rr]; exact Nat.lt_of_lt_of_le hl lim_line, hP F ρ _ _ x4 s4 (by unfold rv; rfl)⟩
        · rw [if_neg hl] at hP; exact hP.elim
      | _ => exact (show False from hP).elim
theorem se_extend {o a : Expr} {apos : Pos} {x y : Env → Store → R PV} (ho : PE X o (tE G W x)) (ha : PE X a (tE G W y)) (hn : nostar a = true) (hbase : attributeBase o "extend" X.env (eval o X.env) = eval o X.env) (hline : (apos.endLine == pos.line) = true) :
    PE X (.Call (.Attribute o "extend" apos) [a] [] pos) (tE G W (mthC .extend x (consL y fun _ S => .ok [] S))) := by
  refine se_lm1 (m := .extend) PySem.F.slot_list_extend PySem.F.type_list_extend mt_extend (fun p S h => ?_) ho ha hn hbase hline fun F ρ H S Q W i b q w hS hb q2 hP => ?_
  · cases p <;> first | cases h | skip
    rename_i i
    have h : (match S[i]? with | some (.lst _) => true | _ => false) = true := h
    cases hi : S[i]? with
    | none => rw [hi] at h; cases h
    | some c =>
      rw [hi] at h
      cases c with
      | lst xs => exact ⟨i, xs, rfl, hi⟩
      | _ => cases h
  · cases q with
    | lst ys =>
      have hP : Post G F ρ H (match (match S[i]? with
          | some (.lst xs) => if xs.length + ys.length ≤ lim then some (PV.non, S.set i (.lst (xs ++ ys))) else none
          | _ => none) with
        | some (q, S') => R.ok q S'
        | none => .bad) (rv G) Q W := hP
      cases hi : S[i]? with
      | none => rw [hi] at hP; exact hP.elim
      | some c =>
        rw [hi] at hP
        cases c with
        | lst xs =>
          dsimp only at hP
          by_cases hl : xs.length + ys.length ≤ lim
          · rw [if_pos hl] at hP
            obtain ⟨vs, hv, rr⟩ := hS.at_ i _ b hi hb
            unfold rv at q2
            obtain ⟨c2, ws, rfl, z, rr2⟩ := q2
            obtain ⟨s4, x4⟩ := hS.writeX (c := .lst (xs ++ ys)) (o := .lst (vs ++ ws)) hb hi (fun z => by cases z) ⟨_, rfl, rvs_app rr rr2⟩
            exact ⟨b, c2, vs, ws, rfl, rfl, hv, hS.sub _ _ z, by rw [← rvs_len rr, ← rvs_len rr2]; exact Nat.le_trans hl lim_line, hP F ρ _ _ x4 s4 (by unfold rv; rfl)⟩
          · rw [if_neg hl] at hP; exact hP.elim
        | _ => exact (show False from hP).elim
    | _ => exact (show False from hP).elim
theorem ixZ_seq {n : Nat} {i : Int} {k : Nat} (h : ixZ n i = some k) : seqIndex? i n = some k := by
  unfold ixZ at h
  unfold seqIndex?
  by_cases h0 : 0 ≤ i
  · rw [if_pos h0] at h
    have e : (if i < 0 then i + (n : Int) else i) = i := if_neg (by omega)
    by_cases h1 : i < n
    · rw [if_pos h1] at h
      have : (decide (0 ≤ i) && decide (i < (n : Int))) = true := by simp [h0, h1]
      simp only [e, this, if_true]
      exact h
    · rw [if_neg h1] at h; cases h
  · rw [if_neg h0] at h
    have e : (if i < 0 then i + (n : Int) else i) = i + n := if_pos (by omega)
    by_cases h1 : -(n : Int) ≤ i
    · rw [if_pos h1] at h
      have : (decide (0 ≤ i + (n : Int)) && decide (i + (n : Int) < (n : Int))) = true := by
        simp only [Bool.and_eq_true, decide_eq_true_eq]
        omega
      simp only [e, this, if_true]
      exact h
    · rw [if_neg h1] at h; cases h
theorem rvs_erase {F : Hp} {ρ : List Addr} : ∀ {xs : List PV} {vs : List V} (k : Nat), rvs G F ρ xs vs → rvs G F ρ (xs.eraseIdx k) (vs.eraseIdx k)
  | [], vs, k, h => by
    have := rvs_nil h
    subst this
    show rvs G F ρ [] []
    unfold rvs; rfl
  | x :: xs, vs, 0, h => by
    obtain ⟨v, r, rfl, a, b⟩ := rvs_cons h
    exact b
  | x :: xs, vs, k + 1, h => by
    obtain ⟨v, r, rfl, a, b⟩ := rvs_cons h
    show rvs G F ρ (x :: xs.eraseIdx k) (v :: r.eraseIdx k)
    unfold rvs
    exact ⟨_, _, rfl, a, rvs_erase k b⟩
theorem se_pop {o a : Expr} {apos : Pos} {x y : Env → Store → R PV} (ho : PE X o (tE G W x)) (ha : PE X a (tE G W y)) (hn : nostar a = true) (hbase : attributeBase o "pop" X.env (eval o X.env) = eval o X.env) (hline : (apos.endLine == pos.line) = true) :
    PE X (.Call (.Attribute o "pop" apos) [a] [] pos) (tE G W (mthC .pop x (consL y fun _ S => .ok [] S))) := by
  refine se_lm1 (m := .pop) PySem.F.slot_list_pop PySem.F.type_list_pop mt_popAt (fun p S h => ?_) ho ha hn hbase hline fun F ρ H S Q W i b q w hS hb q2 hP => ?_
  · cases p <;> first | cases h | skip
    rename_i i
    have h : (match S[i]? with | some (.lst _) => true | _ => false) = true := h
    cases hi : S[i]? with
    | none => rw [hi] at h; cases h
    | some c =>
      rw [hi] at h
      cases c with
      | lst xs => exact ⟨i, xs, rfl, hi⟩
      | _ => cases h
  · cases q with
    | int j =>
      have ej := rv_int q2
      subst ej
      have hP : Post G F ρ H (match (match S[i]? with
          | some (.lst xs) => if (decide (-1000000000 ≤ j) && decide (j < 1000000000)) = true then (ixZ xs.length j).bind fun k => (xs[k]?).map fun p => (p, S.set i (.lst (xs.eraseIdx k))) else none
          | _ => none) with
        | some (q, S') => R.ok q S'
        | none => .bad) (rv G) Q W := hP
      cases hi : S[i]? with
      | none => rw [hi] at hP; exact hP.elim
      | some c =>
        rw [hi] at hP
        cases c with
        | lst xs =>
          dsimp only at hP
          by_cases hl : (decide (-1000000000 ≤ j) && decide (j < 1000000000)) = true
          · rw [if_pos hl] at hP
            simp only [Bool.and_eq_true, decide_eq_true_eq] at hl
            obtain ⟨vs, hv, rr⟩ := hS.at_ i _ b hi hb
            cases hx : ixZ xs.length j with
            | none => rw [hx] at hP; exact hP.elim
            | some k =>
              rw [hx] at hP
              simp only [Option.bind_some] at hP
              cases hg : xs[k]? with
              | none => rw [hg] at hP; exact hP.elim
              | some p =>
                rw [hg] at hP
                simp only [Option.map_some] at hP
                obtain ⟨v, hvk, rp⟩ := rvs_get rr hg
                obtain ⟨s4, x4⟩ := hS.writeX (c := .lst (xs.eraseIdx k)) (o := .lst (vs.eraseIdx k)) hb hi (fun z => by cases z) ⟨_, rfl, rvs_erase k rr⟩
                exact ⟨b, vs, j, k, v, rfl, rfl, hv, by omega, by omega, by rw [← rvs_len rr]; exact ixZ_seq hx, hvk, hP F ρ _ _ x4 s4 (rv_ext x4 _ _ rp)⟩
          · rw [if_neg hl] at hP; exact hP.elim
        | _ => exact (show False from hP).elim
    | _ => exact (show False from hP).elim
theorem on_listc (hK : X.K = G.K) : OpN G X W (.type "list") (bltE G.T call .listc) := by
  intro pins s σ H xs us Q F ρ S ps I r hS q hP
  match ps, hP, q with
  | [], hP, _ => exact (show False from hP).elim
  | a :: _ :: _, hP, _ => cases a <;> exact (show False from hP).elim
  | [p], hP, q =>
    obtain ⟨v, rfl, q1⟩ := one_arg q
    have hP : Post G F ρ H (match items S p with
      | some xs => if xs.length ≤ lim then R.ok (PV.cell S.length) (S ++ [.lst xs]) else .bad
      | none => .bad) (rv G) Q (fun cls d H' => W cls d σ H') := by cases p <;> exact hP
    cases hi : items S p with
    | none => rw [hi] at hP; exact hP.elim
    | some ys =>
      rw [hi] at hP
      dsimp only at hP
      by_cases hl : ys.length ≤ lim
      · rw [if_pos hl] at hP
        obtain ⟨a, vs, rfl, sq, rr⟩ := items_ok hS q1 hi
        refine call_list_of pins s σ H _ us Q I r ⟨a, vs, rfl, seqK hK sq, fun b hb => ?_⟩
        have hc : rc G F (ρ ++ [b]) (.lst ys) (some (.lst vs)) := ⟨vs, rfl, rvs_mono (fun _ _ z => z) (List.prefix_append _ _) _ _ rr⟩
        obtain ⟨s2, x2⟩ := hS.cellX hb hc
        refine hP F (ρ ++ [b]) _ (.ref b) x2 s2 ?_
        unfold rv
        exact ⟨b, rfl, by rw [← hS.len]; simp⟩
      · rw [if_neg hl] at hP; exact hP.elim
/-- a dict of the module, as it is written -/
structure KdOk (G : Rt) (w : World) (u : Value) (q : PV) : Prop where
  ex : ∃ d es m ks ps, u = .ref d ∧ q = .dct ks ps ∧ KDict G.K w d es m ∧ ∀ k p, lookT k ks ps = some p → ∃ u0 v0, PySem.W.nsIn G.K d (sT k) = some (some u0) ∧ RelV v0 u0 ∧ rv G (fun _ => none) [] p v0
theorem se_kd {x : Str} {b : Expr} {p pos : Pos} {y : Env → Store → R PV} {n : Nat} {q : PV} {u : Value} (hK : X.K = G.K) (ko : KdOk G X.w u q) (hq : G.T.globs[n]? = some q) (hg : Gl X x) (hm : X.mg x = some u) (hd : (x == ("__debug__" : Str)) = false) (hb : PE X b (tE G W y)) (hs : PlainIx b) :
    PE X (.Subscript (.Name x p) b pos) (tE G W fun e S => (y e S).bind fun r S => opt (kdD G.T n r) S) := by
  obtain ⟨d, es, m, ks, ps, rfl, rfl, kd, look⟩ := ko.ex
  refine ⟨fun pins s σ H Q I ⟨F, ρ, e, S, hS, hE, hP⟩ => ?_⟩
  refine Subscript_ (ld_glob I hg hm ?_ hd)
  refine stepE hb I hS hE hP fun r S1 F1 ρ1 H1 v u2 s1 I1 r1 hS1 x1 hE1 q1 hP1 => ?_
  unfold kdD at hP1
  rw [hq] at hP1
  cases r with
  | str k =>
    dsimp only at hP1
    cases hl : lookT k ks ps with
    | none => rw [hl] at hP1; exact hP1.elim
    | some pv =>
      rw [hl] at hP1
      obtain ⟨u0, v0, e1, e2, e3⟩ := look k pv hl
      obtain ⟨e4, k4⟩ := rv_str q1
      subst e4
      have kd' : KDict X.K X.w d es m := by rw [hK]; exact kd
      refine tail_any (kd_type kd' I1) PySem.F.slot_dict_getitem.lookup ?_ (hs _ _)
      exact op_item_kd kd' pins s1 σ H1 (.ref d) (.str (sT k)) (.ref d) u2 Q I1 rfl r1 ⟨sT k, u0, v0, rfl, rfl, by rw [hK]; exact e1, e2, hP1.ok hS1 (rv_mono (fun a o z => by cases z) List.nil_prefix _ _ e3)⟩
  | _ => exact (show False from hP1).elim
theorem se_count {o a : Expr} {apos : Pos} {x y : Env → Store → R PV} (ho : PE X o (tE G W x)) (ha : PE X a (tE G W y)) (hn : nostar a = true) (hbase : attributeBase o "count" X.env (eval o X.env) = eval o X.env) (hline : (apos.endLine == pos.line) = true) :
    PE X (.Call (.Attribute o "count" apos) [a] [] pos) (tE G W (mthC .count x (consL y fun _ S => .ok [] S))) := by
  refine se_mth1 (m := .count) PySem.F.slot_str_count PySem.F.type_str_count mt_count (fun p S h => ?_) ho ha hn hbase hline fun F ρ H S Q W t q w hS k1 q2 hP => ?_
  · cases p <;> first | exact ⟨_, rfl⟩ | cases h
  · cases q with
    | str u =>
      obtain ⟨e2, k2⟩ := rv_str q2
      subst e2
      have hP : Post G F ρ H (R.ok (PV.int (Txt.count (sT t) (sT u))) S) (rv G) Q W := hP
      exact ⟨sT t, sT u, rfl, rfl, hP F ρ H _ .refl hS (by unfold rv; rfl)⟩
    | _ => exact (show False from hP).elim
theorem se_starts {o a : Expr} {apos : Pos} {x y : Env → Store → R PV} (ho : PE X o (tE G W x)) (ha : PE X a (tE G W y)) (hn : nostar a = true) (hbase : attributeBase o "startswith" X.env (eval o X.env) = eval o X.env) (hline : (apos.endLine == pos.line) = true) :
    PE X (.Call (.Attribute o "startswith" apos) [a] [] pos) (tE G W (mthC .startswith x (consL y fun _ S => .ok [] S))) := by
  refine se_mth1 (m := .startswith) PySem.F.slot_str_startswith PySem.F.type_str_startswith mt_startswith (fun p S h => ?_) ho ha hn hbase hline fun F ρ H S Q W t q w hS k1 q2 hP => ?_
  · cases p <;> first | exact ⟨_, rfl⟩ | cases h
  · cases q with
    | str u =>
      obtain ⟨e2, k2⟩ := rv_str q2
      subst e2
      have hP : Post G F ρ H (R.ok (PV.bl (Txt.startswith (sT t) (sT u))) S) (rv G) Q W := hP
      exact ⟨sT t, sT u, rfl, rfl, hP F ρ H _ .refl hS (by unfold rv; rfl)⟩
    | _ => exact (show False from hP).elim
theorem on_min (hc : X.calm = true) : OpN G X W (.builtin "min") (bltE G.T call .min) := by
  intro pins s σ H xs us Q F ρ S ps I r hS q hP
  match ps, hP, q with
  | [], hP, _ => exact (show False from hP).elim
  | [.int _], hP, _ | [.str _], hP, _ | [.non], hP, _ | [.bl _], hP, _ | [.tup _], hP, _ | [.lst _], hP, _ | [.dct _ _], hP, _ | [.ins _ _], hP, _ | [.cell _], hP, _ | [.obj _], hP, _ | [.ex _ _], hP, _ => exact (show False from hP).elim
  | a :: b :: _ :: _, hP, _ => cases a <;> first | exact (show False from hP).elim | (cases b <;> exact (show False from hP).elim)
  | [p, p2], hP, q =>
    obtain ⟨v, w, rfl, q1, q2⟩ := two_args q
    cases p with
    | int i =>
      cases p2 with
      | int j =>
        have e := rv_int q1; subst e
        have e := rv_int q2; subst e
        exact call_min2 hc pins s σ H _ us Q I r ⟨i, j, rfl, q_int hP hS⟩
      | _ => exact (show False from hP).elim
    | _ => exact (show False from hP).elim
theorem ints_of {F : Hp} {ρ : List Addr} : ∀ {xs : List PV} {is : List Int} {vs : List V}, intsO xs = some is → rvs G F ρ xs vs → vs = is.map V.int
  | [], is, vs, h, r => by cases h; exact rvs_nil r
  | x :: xs, is, vs, h, r => by
    obtain ⟨v, r', rfl, a, b⟩ := rvs_cons r
    cases x with
    | int c =>
      unfold intsO at h
      cases hx : intsO xs with
      | none => rw [hx] at h; cases h
      | some is' =>
        rw [hx] at h
        cases h
        rw [rv_int a, ints_of hx b]
        rfl
    | _ => cases h
theorem sumL_eq : ∀ is : List Int, sumL is = is.sum
  | [] => rfl
  | i :: r => by
    show i + sumL r = (i :: r).sum
    rw [sumL_eq r, List.sum_cons]
theorem on_sum (hc : X.calm = true) (hK : X.K = G.K) : OpN G X W (.builtin "sum") (bltE G.T call .sum) := by
  intro pins s σ H xs us Q F ρ S ps I r hS q hP
  match ps, hP, q with
  | [], hP, _ => exact (show False from hP).elim
  | a :: _ :: _, hP, _ => cases a <;> exact (show False from hP).elim
  | [p], hP, q =>
    obtain ⟨v, rfl, q1⟩ := one_arg q
    cases p with
    | lst ys =>
      have hP : Post G F ρ H (opt ((intsO ys).map fun is => PV.int (sumL is)) S) (rv G) Q (fun cls d H' => W cls d σ H') := hP
      cases hb : intsO ys with
      | none => rw [hb] at hP; exact hP.elim
      | some is =>
        rw [hb] at hP
        unfold rv at q1
        obtain ⟨a, vs, rfl, z, rr⟩ := q1
        have e := ints_of hb rr
        subst e
        refine cr_sum hc pins s σ H _ us Q I r ⟨a, is, rfl, SqL.of (hS.sub _ _ z), ?_⟩
        rw [← sumL_eq]
        exact q_int hP hS
    | _ => exact (show False from hP).elim
theorem on_any (hc : X.calm = true) : OpN G X W (.builtin "any") (bltE G.T call .any) := by
  intro pins s σ H xs us Q F ρ S ps I r hS q hP
  match ps, hP, q with
  | [], hP, _ => exact (show False from hP).elim
  | a :: _ :: _, hP, _ => cases a <;> exact (show False from hP).elim
  | [p], hP, q =>
    obtain ⟨v, rfl, q1⟩ := one_arg q
    cases p with
    | lst xs =>
      have hP : Post G F ρ H (opt ((blsO xs).map fun bs => PV.bl (bs.any id)) S) (rv G) Q (fun cls d H' => W cls d σ H') := hP
      cases hb : blsO xs with
      | none => rw [hb] at hP; exact hP.elim
      | some bs =>
        rw [hb] at hP
        unfold rv at q1
        obtain ⟨a, vs, rfl, z, rr⟩ := q1
        have e := bls_of hb rr
        subst e
        exact cr_any hc pins s σ H _ us Q I r ⟨a, bs, rfl, SqL.of (hS.sub _ _ z), q_bl hP hS⟩
    | _ => exact (show False from hP).elim
end
end Ev
set_option Elab.async false
set_option linter.all false
set_option maxRecDepth 100000
set_option maxHeartbeats 1000000
/-! E19f: texts of values: str, f-strings. -/
namespace Ev
open PySem L2
open PyProof.Rows hiding St

theorem room_in2 {k : Nat} {A : Around} (r : Room (k + 1) A) : Room k A.in1.in1 :=
  ⟨r.hd, by have := r.dp; show A.depth + 3 * k + 5 < _; omega, by have := r.un; show A.units + 1 + 1 + 16 * k + 200 < _; omega⟩
section
variable {G : Rt} {X : Cx} {W : WX} {pins : List (Addr × Obj)} {σ : Slots} {H : Hp} {s : Shared} {F : Hp} {ρ : List Addr} {e : Env} {S : Store} {pos : Pos} {k : Nat} {fa : Nat → Addr} {call : Calls}
/-- an own __str__ runs, in A -/
theorem run_str {A : Around} {c : Nat} {fs : List PV} {f : Nat} {a : Addr} {Q : Value → Shared → Prop} {h : List Nat → Store → R PV} {Qv : VK} {Wv : XK} (O : Ops G X k fa call) (hr : Room k A) (hg : A.guards = some []) (hA : A.frames = X.A.frames) (I : Inv X pins σ H s) (hS : SR G F ρ H S) (q1 : rv G F ρ (.ins c fs) (.ref a))
    (hP : Post G F ρ H ((call f [.ins c fs] S).bind fun v S => match v with
      | .str x => h x S
      | _ => .bad) (rv G) Qv Wv)
    (fin : ∀ F' ρ' H' S' x s' t, Inv X pins σ H' s' → Ext F ρ H F' ρ' H' → SR G F' ρ' H' S' → okS x = true → Post G F' ρ' H' (h x S') (rv G) Qv Wv → Q (.str (sT x) t) s') :
    wpAny (model X.prog X.w) A (PySem.call (.ref (fa f)) [.ref a]) (PySem.W.StrBack Q) X.xe s := by
  refine wpAny_mono (run_meth (E := Wv) (Q := fun v H' => ∃ x F' ρ' S', v = .str (sT x) ∧ Ext F ρ H F' ρ' H' ∧ SR G F' ρ' H' S' ∧ okS x = true ∧ Post G F' ρ' H' (h x S') (rv G) Qv Wv) (n := 0) (us := [.ref a]) (vs := [.ref a]) O.fn hr hg hA I (.cons rfl .nil) hS (rvs1 q1) ?_) (fun w s' z => ?_) fun _ _ x => x
  · cases hc : call f [PV.ins c fs] S with
    | bad => rw [hc] at hP; exact hP.elim
    | exc z S1 => rw [hc] at hP; exact hP
    | ok p1 S1 =>
      rw [hc] at hP
      intro F1 ρ1 H1 v1 x1 hS1 q2
      cases p1 with
      | str x =>
        obtain ⟨e2, e3⟩ := rv_str q2
        subst e2
        exact ⟨x, F1, ρ1, S1, rfl, x1, hS1, e3, Post.mono x1 hP⟩
      | _ => exact (show False from hP).elim
  · obtain ⟨v', H', I', rz, x, F', ρ', S', rfl, x1, hS1, e3, hP1⟩ := z
    obtain ⟨t, rfl⟩ := rz
    exact fin F' ρ' H' S' x s' t I' x1 hS1 e3 hP1
theorem frames_in2 {A : Around} : A.in1.in1.frames = A.frames := rfl
theorem on_str (O : Ops G X k fa call) : OpN G X W (.type "str") (bltE G.T call .str) := by
  intro pins s σ H xs us Q F ρ S ps I r hS q hP
  match ps, hP, q with
  | [], hP, _ => exact (show False from hP).elim
  | a :: _ :: _, hP, _ => cases a <;> exact (show False from hP).elim
  | [p], hP, q =>
    obtain ⟨v, rfl, q1⟩ := one_arg q
    cases p with
    | int i =>
      have e := rv_int q1; subst e
      have hP : Post G F ρ H (opt (if (decide (i.natAbs.log2 < 1920) && okS (uT (toString i : Str))) = true then some (PV.str (uT (toString i : Str))) else none) S) (rv G) Q (fun cls d H' => W cls d σ H') := hP
      by_cases hc : (decide (i.natAbs.log2 < 1920) && okS (uT (toString i : Str))) = true
      · rw [if_pos hc] at hP
        obtain ⟨h1, h2⟩ := Bool.and_eq_true_iff.mp hc
        exact call_str_int pins s σ H _ us Q I r ⟨i, rfl, of_decide_eq_true h1, q_str hP hS h2⟩
      · rw [if_neg hc] at hP; exact hP.elim
    | str x =>
      obtain ⟨e, k1⟩ := rv_str q1; subst e
      have hP : Post G F ρ H (R.ok (PV.str x) S) (rv G) Q (fun cls d H' => W cls d σ H') := hP
      exact SkE.call_str_str pins s σ H _ us Q I r ⟨sT x, rfl, q_str hP hS k1⟩
    | ins c fs =>
      obtain ⟨u, rfl, r1⟩ := vals1 r
      have hP : Post G F ρ H ((callM G.T call (.ins c fs) nStr [] S).bind fun v S => match v with
        | .str x => .ok (.str x) S
        | _ => .bad) (rv G) Q (fun cls d H' => W cls d σ H') := hP
      unfold callM at hP
      rw [bind_assoc] at hP
      obtain ⟨f, hf, hP⟩ := bindO hP
      obtain ⟨kl, hk, ok, M⟩ := meth_of O.cls hf
      obtain ⟨a, dx, vs, rfl, rfl, ha, ox, od, J⟩ := ins_look I hS q1 r1
      have hat := M.at_
      rw [O.nm.str] at hat
      refine PySem.W.kso_call (room_in2 O.room).units0 I.kIn J (by rw [O.K]; exact hat) (by rw [O.K]; exact M.fn) ?_
      refine run_str (A := X.A.in1.in1) (h := fun x S => .ok (.str x) S) O (room_in2 O.room) O.gd frames_in2 I hS q1 hP fun F' ρ' H' S' x s' t I' x1 hS1 e3 hP1 => ?_
      exact ⟨.str (sT x), H', I', ⟨t, rfl⟩, hP1.ok hS1 (by unfold rv; exact ⟨rfl, e3⟩)⟩
    | _ => exact (show False from hP).elim
/-- the text of a value, in an f-string -/
theorem se_fmt {a : Expr} {x : Env → Store → R PV} (O : Ops G X k fa call) (hfm : ∀ c kl, G.T.cls[c]? = some kl → PySem.W.findIn G.K (.ref (G.clsA c)) "__format__" = some (some (.builtin "object.__format__")) ∧ PySem.W.mroIn G.K (G.clsA c) (.type "object") = some true) (ha : PE X a (tE G W x)) :
    PE X (.FormattedValue a (-1) none pos) (tE G W fun e S => (x e S).bind fun p S => (textE G.T call p S).bind fun t S => .ok (.str t) S) := by
  refine ⟨fun pins s σ H Q I ⟨F, ρ, e, S, hS, hE, hP⟩ => ?_⟩
  refine wpAny_FormattedValue_plain (stepE ha I hS hE hP fun p S1 F1 ρ1 H1 v u s1 I1 r1 hS1 x1 hE1 q1 hP1 => ?_)
  cases p with
  | str y =>
    obtain ⟨e1, k1⟩ := rv_str q1
    subst e1
    obtain ⟨t, rfl⟩ := r1
    have hP1 : Post G F1 ρ1 H1 (R.ok (PV.str y) S1) (rv G) Q (fun cls d H' => W cls d σ H') := hP1
    have z : Q (.str (sT y)) H1 := hP1.ok hS1 (by unfold rv; exact ⟨rfl, k1⟩)
    exact wpAny_formatField_str ⟨.str (sT y), H1, I1, ⟨t, rfl⟩, z⟩ ⟨.str (sT y), H1, I1.tok _, ⟨_, rfl⟩, z⟩ (Nat.le_trans (okS_len k1) lim_line)
  | int i =>
    have e1 := rv_int q1
    subst e1
    obtain ⟨t, rfl⟩ := r1
    have hP1 : Post G F1 ρ1 H1 ((if (decide (i.natAbs.log2 < 1920) && okS (uT (toString i : Str))) = true then R.ok (uT (toString i : Str)) S1 else .bad).bind fun t S => .ok (.str t) S) (rv G) Q (fun cls d H' => W cls d σ H') := hP1
    by_cases hc : (decide (i.natAbs.log2 < 1920) && okS (uT (toString i : Str))) = true
    · rw [if_pos hc] at hP1
      obtain ⟨h1, h2⟩ := Bool.and_eq_true_iff.mp hc
      exact wpAny_formatField_int (of_decide_eq_true h1) ⟨.str (toString i), H1, I1.tok _, ⟨_, rfl⟩, hP1.ok hS1 (by unfold rv; exact ⟨rfl, h2⟩)⟩
    · rw [if_neg hc] at hP1; exact hP1.elim
  | ins c fs =>
    have hP1 : Post G F1 ρ1 H1 (((callM G.T call (.ins c fs) nStr [] S1).bind fun v S => match v with
      | .str x => .ok x S
      | _ => .bad).bind fun t S => .ok (.str t) S) (rv G) Q (fun cls d H' => W cls d σ H') := hP1
    unfold callM at hP1
    rw [bind_assoc, bind_assoc] at hP1
    obtain ⟨f, hf, hP1⟩ := bindO hP1
    obtain ⟨kl, hk, ok, M⟩ := meth_of O.cls hf
    obtain ⟨a', dx, vs, rfl, rfl, ha', ox, od, J⟩ := ins_look I1 hS1 q1 r1
    have hat := M.at_
    rw [O.nm.str] at hat
    obtain ⟨f1, f2⟩ := hfm c kl hk
    refine PySem.W.kfo_fieldS (O.room.in1).units0 I1.kIn J (by rw [O.K]; exact f1) (by rw [O.K]; exact f2) (by rw [O.K]; exact hat) (by rw [O.K]; exact M.fn) ?_
    refine run_str (A := X.A.in1) (Qv := Q) (Wv := fun cls d H' => W cls d σ H') (h := fun x S => .ok (.str x) S) O O.room.in1 O.gd frames_in1 (I1.tok (s1.toks + 1)) hS1 q1 ?_ fun F' ρ' H' S' x s' t I' x1 hS2 e3 hP2 => ?_
    · have : (fun v S => (match v with
        | .str x => R.ok x S
        | _ => .bad : R (List Nat)).bind fun t S => R.ok (PV.str t) S) = (fun (v : PV) (S : Store) => (match v with
        | .str x => R.ok (PV.str x) S
        | _ => .bad : R PV)) := by
        funext v S
        cases v <;> rfl
      have hP1 := hP1
      cases hc : call f [PV.ins c fs] S1 with
      | bad => rw [hc] at hP1; exact hP1.elim
      | exc z S2 => rw [hc] at hP1; exact hP1
      | ok v S2 =>
        rw [hc] at hP1
        cases v <;> exact hP1
    · exact ⟨.str (sT x), H', I', ⟨t, rfl⟩, hP2.ok hS2 (by unfold rv; exact ⟨rfl, e3⟩)⟩
  | _ => exact (show False from hP1).elim
end
end Ev
set_option Elab.async false
set_option linter.all false
set_option maxRecDepth 100000
set_option maxHeartbeats 1000000
/-! E39: s[::-1] of texts and lists. -/
namespace Ev
open PySem L2
open PyProof.Rows hiding St

theorem strIdx_rev (n : Nat) : Builtin.Str.strSliceIndices none none (-1) n = (List.range n).reverse := by
  have h := W.krv_sliceRange n
  rw [W.krv_range] at h
  exact h
theorem cps_all (x : Str) : ((List.range x.length).reverse.filterMap (x.cps[·]?)).toArray = x.cps.toList.reverse.toArray := by
  rw [List.filterMap_reverse, show x.length = x.cps.size from rfl, W.krv_all]
section
variable {G : Rt} {X : Cx} {W : WX}
theorem okS_rev {x : List Nat} (h : okS x = true) : okS x.reverse = true := by
  unfold okS at h ⊢
  rw [Bool.and_eq_true_iff] at h ⊢
  exact ⟨by rw [List.length_reverse]; exact h.1, by rw [List.all_reverse]; exact h.2⟩
theorem se_rev {a : Expr} {k : Nat} {p1 p2 p3 pos : Pos} {x : Env → Store → R PV} (hK : X.K = G.K) (he : PE X a (tE G W x)) :
    PE X (.Subscript a (.Slice none none (some (.UnaryOp .USub (.Constant (.int 1) k p1) p2)) p3) pos) (tE G W fun e S => (x e S).bind fun p S => opt (revD p S) S) := by
  refine ⟨fun pins s σ H Q I ⟨F, ρ, e, S, hS, hE, hP⟩ => ?_⟩
  refine Subscript_ (thn (he.run pins s σ H (fun x H1 => ∃ F ρ S p, SR G F ρ H1 S ∧ rv G F ρ p x ∧ Post G F ρ H1 (opt (revD p S) S) (rv G) Q (fun cls d H' => W cls d σ H')) I ⟨F, ρ, e, S, hS, hE, ?_⟩) fun v s1 ⟨y, H1, I1, r1, q1⟩ => ?_)
  · dsimp only at hP
    cases hx : x e S with
    | exc z S1 => rw [hx] at hP; exact hP
    | bad => rw [hx] at hP; exact hP.elim
    | ok p S1 =>
      rw [hx] at hP
      intro F1 ρ1 H1 v x1 hS1 q1
      have hP1 := Post.mono x1 hP
      simp only [bind_ok] at hP1
      exact ⟨F1, ρ1, S1, p, hS1, q1, hP1⟩
  obtain ⟨F, ρ, S, p, hS, hv, hP⟩ := q1
  have hst : PO X (some (.UnaryOp .USub (.Constant (.int 1) k p1) p2)) (tPart (tUn (rU fun i => .int (-i)) (tC (.int 1)))) := po_some (pe_un un_neg pe_int)
  refine wpAny_Slice (thn (po_none.run pins s1 σ H1 (fun o H2 => o = none ∧ H2 = H1) I1 ⟨rfl, rfl⟩) fun vl s2 ⟨l, H2, I2, pl, el, e2⟩ => ?_)
  subst el e2
  refine thn (po_none.run pins s2 σ H2 (fun o H3 => o = none ∧ H3 = H2) I2 ⟨rfl, rfl⟩) fun vu s3 ⟨u, H3, I3, pu, eu, e3⟩ => ?_
  subst eu e3
  refine thn (hst.run pins s3 σ H3 (fun o H4 => o = some (-1) ∧ H4 = H3) I3 ⟨1, rfl, -1, rfl, rfl, rfl⟩) fun vs s4 ⟨o, H4, I4, ps, eo, e4⟩ => ?_
  subst eo e4
  have I5 : Inv X pins σ H4 { s4 with heap := s4.heap.push { cls := .type "slice", data := .fields #[vl, vu, vs] } } := I4.kept (t' := s4.toks) fun b ob q => Heap.get?_push_of_some _ q
  show wpAny (model X.prog X.w) X.A (subscriptTail a (.Slice none none (some (.UnaryOp .USub (.Constant (.int 1) k p1) p2)) p3) v (.ref s4.heap.objs.size)) (EP X pins σ Q) X.xe { s4 with heap := s4.heap.push { cls := .type "slice", data := .fields #[vl, vu, vs] } }
  revert hP
  unfold revD
  split
  · rename_i c
    intro hP
    obtain ⟨e1, k1⟩ := rv_str hv
    subst e1
    obtain ⟨t, rfl⟩ := r1
    obtain ⟨l, rfl, hl⟩ := IsPart.raw pl
    obtain ⟨u, rfl, hu⟩ := IsPart.raw pu
    obtain ⟨st, rfl, hst'⟩ := IsPart.raw ps
    refine tail_any (ops := [.ref s4.heap.objs.size]) (typeIs_str _ _ _) (PySem.F.slot_str_getitem.lookup) ?_ (by with_unfolding_all rfl)
    refine wpAny_getItem_str_slice (l := l) (u := u) (st := st) ⟨_, Heap.get?_push_size _ rfl, rfl, rfl⟩ (by rw [hst']; rfl) ?_
    unfold sliceMade slicePicked
    rw [hl, hu, hst']
    show Made.post (if ((-1 : Int) == 1 && (Builtin.Str.strSliceIndices none none (-1) (sT c).length).length == (sT c).length) = true then Made.val (.str (sT c) t)
      else Made.str ⟨((Builtin.Str.strSliceIndices none none (-1) (sT c).length).filterMap ((sT c).cps[·]?)).toArray⟩) (EP X pins σ Q) _
    rw [if_neg (by rw [show ((-1 : Int) == 1) = false from rfl, Bool.false_and]; exact Bool.false_ne_true), strIdx_rev, cps_all]
    have hlen : (⟨(sT c).cps.toList.reverse.toArray⟩ : Str).length ≤ sizeLine := by
      show ((sT c).cps.toList.reverse.toArray).size ≤ sizeLine
      rw [List.size_toArray, List.length_reverse, Array.length_toList]
      exact Nat.le_trans (okS_len k1) lim_line
    refine ⟨hlen, .str _, H4, I5.tok _, ⟨_, rfl⟩, ?_⟩
    exact q_str (x := c.reverse) hP hS (okS_rev k1)
  · rename_i xs
    intro hP
    unfold rv at hv
    obtain ⟨d, vs', e1, z, r⟩ := hv
    subst e1
    cases r1
    have hx : SqL X.K H4 d vs' := SqL.of (hS.sub _ _ z)
    obtain ⟨its, r', ht, hz⟩ := I5.list hx
    have hlen := r'.length
    refine tail_any (ops := [.ref d, .ref s4.heap.objs.size]) ht.isList.typeIs (PySem.slot_list_getitem.lookup) ?_ (by with_unfolding_all rfl)
    refine wpAny_getItem_list_slice ht.isList (Heap.IsSliceOf.new _ vl vu vs) pl pu ps (by decide) ?_ (by rw [List.size_toArray]; omega)
    rw [PySem.W.krv_pick]
    refine ⟨.ref _, _, I5.laid (t' := s4.toks) (o := .lst vs'.reverse) (fun b ob q => Heap.get?_push_of_some _ q) (Nat.le_refl _) ?_, rfl, mk_lst hP hS (rvs_rev r) _ (I5.hok.fresh (Nat.le_refl _))⟩
    exact ⟨by rw [List.length_reverse]; exact hz, _, 0, r'.reverse, Heap.get?_push_size _ rfl⟩
  · intro hP; exact hP.elim
end
end Ev
set_option Elab.async false
set_option linter.all false
set_option maxRecDepth 100000
set_option maxHeartbeats 3200000
/-! E40: sets of texts, sorted: the layer's sets of ints, said again for texts. -/
namespace Ev
open PySem L2 PySem.Spec
open PyProof.Rows hiding St

def keyS (e : Int × Value) : Str := match e.2 with
  | .str k _ => k
  | _ => Str.empty
section
variable (P : Program) (w : World)
def GoodS (e : Int × Value) : Prop := ∃ k tk, e.2 = Value.str k tk ∧ e.1 = (PySem.strKind P w).hash k
/-- the set of texts at a: T its members, n how many -/
def SetS (h : Heap) (a : Addr) (T : Str → Bool) (n : Nat) : Prop :=
  ∃ o es ep t, h.get? a = some o ∧ o.ExactSet ∧ o.data = .set es ep t ∧ (∀ e ∈ es.toList, GoodS P w e) ∧ (es.toList.map keyS).Nodup ∧ (∀ k, T k = true ↔ k ∈ es.toList.map keyS) ∧
    es.size < scanBound ∧ t.fits es.size = true ∧ es.size = n ∧ Ris t.place.toList ∧ (w.params.followText "set-order" = true ∨ t.led = true)
end
section
variable {P : Program} {w : World} {h h' : Heap} {a : Addr} {T : Str → Bool} {n : Nat}
theorem SetS.keep (R : SetS P w h a T n) (k : ∀ o, h.get? a = some o → h'.get? a = some o) : SetS P w h' a T n := by
  obtain ⟨o, es, ep, t, ho, r⟩ := R
  exact ⟨o, es, ep, t, k o ho, r⟩
theorem SetS.congr {T' : Str → Bool} (R : SetS P w h a T n) (e : ∀ k, T' k = T k) : SetS P w h a T' n := by
  rw [show T' = T from funext e]; exact R
theorem goodS_elems {l : List (Int × Value)} (g : ∀ e ∈ l, GoodS P w e) : ElemsOf (PySem.strKind P w) l := fun e he => by
  obtain ⟨k, tk, h1, h2⟩ := g e he
  exact ⟨⟨k, by rw [h1]; exact strKind_is P w k tk, h2⟩, by rw [h1] <;> rfl⟩
theorem goodS_is {e : Int × Value} (g : GoodS P w e) (k : Str) : (PySem.strKind P w).is k e.2 = true ↔ keyS e = k := by
  obtain ⟨k0, tk, h1, _⟩ := g
  unfold keyS
  rw [h1]
  constructor
  · intro z
    obtain ⟨t, ht⟩ := Value.isStrOf_shape (show Value.isStrOf k (.str k0 tk) = true from z)
    injection ht
  · rintro rfl
    exact strKind_is P w _ tk
theorem goodS_mem {l : List (Int × Value)} (g : ∀ e ∈ l, GoodS P w e) (k : Str) : k ∈ l.map keyS ↔ ∃ e ∈ l, (PySem.strKind P w).is k e.2 = true := by
  rw [List.mem_map]
  exact ⟨fun ⟨e, he, q⟩ => ⟨e, he, (goodS_is (g e he) k).2 q⟩, fun ⟨e, he, q⟩ => ⟨e, he, (goodS_is (g e he) k).1 q⟩⟩
end
section
variable {P : Program} {w : World} {A : Around} {E : Value → Shared → Prop} {s : Shared} {a : Addr} {T : Str → Bool} {n : Nat}
theorem setS_tail {g : Bool → Sem Unit} (hg : ∀ (b : Bool) (s₁ : Shared) (Q' : Unit → Shared → Prop), Q' () s₁ → wpAny (model P w) A (g b) Q' E s₁)
    {o : Obj} {es : Array (Int × Value)} {ep : Nat} {t : SetTable} (ho : s.heap.get? a = some o) (hex : o.ExactSet) (hd : o.data = .set es ep t)
    {es1 : Array (Int × Value)} {t2 : SetTable} {T' : Str → Bool} (g1 : ∀ e ∈ es1.toList, GoodS P w e) (nd1 : (es1.toList.map keyS).Nodup) (m1 : ∀ k, T' k = true ↔ k ∈ es1.toList.map keyS)
    (hb1 : es1.size < scanBound) (hf2 : t2.fits es1.size = true) (hr : Ris t2.place.toList) (hl : w.params.followText "set-order" = true ∨ t2.led = true) {wasDummy : Bool} {R : Option Bool → Shared → Prop}
    (hR : ∀ h', Heap.SameBut a s.heap h' → SetS P w h' a T' es1.size → R (some true) { s with heap := h' }) :
    wpAny (model P w) A (do
        storeSet a es1 t2
        if (!wasDummy && t2.tooFull) = true then do
            g (relayAll t2 es1 (SetTable.grown es1.size)).2.2
            storeSet a (relayAll t2 es1 (SetTable.grown es1.size)).1 (relayAll t2 es1 (SetTable.grown es1.size)).2.1
            pure (some true)
          else pure (some true)) R E s := by
  refine wpAny_bind (wpAny_storeSet_of ho hd ?_ (fits_of_scanBound hb1))
  have p1 := store_at (es' := es1) (t' := t2) ho hd
  have b1 := Heap.SameBut.update s.heap a (Obj.putSet es1 t2)
  split
  · have pm := relayAll_perm t2 es1 (SetTable.grown es1.size)
    have f3 := relayAll_fits t2 es1 (SetTable.grown es1.size)
    have r3 := relayAll_ris t2 es1 (SetTable.grown es1.size)
    have l3 := relayAll_led t2 es1 (SetTable.grown es1.size)
    generalize relayAll t2 es1 (SetTable.grown es1.size) = Z at pm f3 r3 l3 ⊢
    obtain ⟨es2, t3, gave⟩ := Z
    dsimp only at pm f3 r3 l3 ⊢
    have sz : es2.size = es1.size := by rw [← Array.length_toList, pm.length_eq, Array.length_toList]
    have b2 : es2.size < scanBound := by rw [sz]; exact hb1
    refine wpAny_bind (hg _ _ _ ?_)
    refine wpAny_bind (wpAny_storeSet_of p1 rfl ?_ (fits_of_scanBound b2))
    have p2 := store_at (es' := es2) (t' := t3) p1 rfl
    refine wpAny_pure (hR _ (b1.trans (Heap.SameBut.update _ a _)) ?_)
    exact ⟨_, es2, _, t3, p2, hex, rfl, fun e he => g1 e (pm.mem_iff.mp he), (pm.map keyS).nodup_iff.mpr nd1, fun k => (m1 k).trans (pm.map keyS).mem_iff.symm, b2, f3, sz, r3,
      hl.imp id fun z => by rw [l3]; exact z⟩
  · exact wpAny_pure (hR _ b1 ⟨_, es1, _, t2, p1, hex, rfl, g1, nd1, m1, hb1, hf2, rfl, hr, hl⟩)
theorem setS_add {k : Str} {tk : Tok} {Q : Bool → Shared → Prop} (R : SetS P w s.heap a T n) (room : n + 1 < scanBound)
    (hQ : ∀ h', Heap.SameBut a s.heap h' → SetS P w h' a (fun j => T j || decide (j = k)) (if T k = true then n else n + 1) → Q (!T k) { s with heap := h' }) :
    wpAny (model P w) A (setAddHashed a (.str k tk) ((PySem.strKind P w).hash k)) Q E s := by
  obtain ⟨o, es, ep, t, ho, hex, hd, g, nd, hm, hb, hf, hn, hr, hl⟩ := R
  have hkey : (PySem.strKind P w).is k (.str k tk) = true := strKind_is P w k tk
  have hsc : (Value.str k tk).scannable = true := rfl
  have hel : ElemsOf (PySem.strKind P w) es.toList := goodS_elems g
  unfold setAddHashed setAddHashedIn
  refine wpAny_holding (wpAny_bind (wpAny_setState_of ho hd hf ?_))
  dsimp only
  rw [byScan_of hsc hb hel]
  simp only [↓reduceIte]
  unfold setAddByScan
  refine wpAny_bind ?_
  refine wpAny_bind (wpAny_rule ?_)
  refine wpAny_bind (wpAny_setScan_of hkey ho hd hf hel ?_)
  cases hfi : List.findIdx? (fun e => (PySem.strKind P w).is k e.2) es.toList with
  | some j =>
    dsimp only
    obtain ⟨hj, pj, _⟩ := List.findIdx?_eq_some_iff_getElem.mp hfi
    have hTk : T k = true := (hm k).2 ((goodS_mem (P := P) (w := w) g k).2 ⟨es.toList[j], List.getElem_mem hj, pj⟩)
    refine wpAny_pure (wpAny_pure ?_)
    have q := hQ s.heap (Heap.SameBut.refl a s.heap) ⟨o, es, ep, t, ho, hex, hd, g, nd, fun i => by
      rw [Bool.or_eq_true, decide_eq_true_eq, ← hm i]
      exact ⟨fun z => z.elim id (fun e => e ▸ hTk), .inl⟩, hb, hf, by rw [if_pos hTk]; exact hn, hr, hl⟩
    rw [hTk] at q
    exact q
  | none =>
    dsimp only
    have hnk : k ∉ es.toList.map keyS := fun z => by
      obtain ⟨e, he, q⟩ := (goodS_mem (P := P) (w := w) g k).1 z
      have c := List.findIdx?_eq_none_iff.mp hfi e he
      rw [q] at c
      cases c
    have hTk : T k = false := by
      cases q : T k with
      | false => rfl
      | true => exact absurd ((hm k).1 q) hnk
    have hgw : ∀ (b : Bool) {s₁ : Shared} {Q' : Unit → Shared → Prop}, Q' () s₁ → wpAny (model P w) A (match b with | true => rule "set.scan.the-table-gave-way" | false => pure ()) Q' E s₁ :=
      fun b s₁ Q' q => by cases b <;> first | exact wpAny_pure q | exact wpAny_rule q
    have pm := layNew_perm t es ((PySem.strKind P w).hash k) (.str k tk)
    have f1 := layNew_fits t es ((PySem.strKind P w).hash k) (.str k tk)
    have r1 := layNew_ris t es ((PySem.strKind P w).hash k) (.str k tk) hr
    have l1 := layNew_led t es ((PySem.strKind P w).hash k) (.str k tk)
    generalize layNew t es ((PySem.strKind P w).hash k) (.str k tk) = Z at pm f1 r1 l1 ⊢
    obtain ⟨es1, t1, wasDummy, gave⟩ := Z
    dsimp only at pm f1 r1 l1 ⊢
    rw [Array.toList_push] at pm
    have pc : es1.toList.Perm (((PySem.strKind P w).hash k, Value.str k tk) :: es.toList) := pm.trans (List.perm_append_singleton _ _)
    have pk : (es1.toList.map keyS).Perm (k :: es.toList.map keyS) := pc.map keyS
    have g1 : ∀ e ∈ es1.toList, GoodS P w e := fun e he => by
      rcases List.mem_cons.mp (pc.mem_iff.mp he) with z | z
      · rw [z]; exact ⟨k, tk, rfl, rfl⟩
      · exact g e z
    have nd1 : (es1.toList.map keyS).Nodup := pk.nodup_iff.mpr (List.nodup_cons.mpr ⟨hnk, nd⟩)
    have m1 : ∀ i, (T i || decide (i = k)) = true ↔ i ∈ es1.toList.map keyS := fun i => by
      rw [Bool.or_eq_true, decide_eq_true_eq, hm i, pk.mem_iff, List.mem_cons]
      exact Or.comm
    have sz : es1.size = n + 1 := by rw [← Array.length_toList, pc.length_eq, List.length_cons, Array.length_toList, hn]
    have b1 : es1.size < scanBound := by rw [sz]; exact room
    have led : w.params.followText "set-order" = true ∨ t1.led = true := hl.imp id fun z => by rw [l1]; exact z
    have fin : ∀ h', Heap.SameBut a s.heap h' → SetS P w h' a (fun j => T j || decide (j = k)) es1.size → Q true { s with heap := h' } := fun h' sb r => by
      have q := hQ h' sb
      rw [hTk] at q
      rw [sz] at r
      exact q r
    refine wpAny_bind (hgw _ ?_)
    split
    · refine wpAny_bind ?_
      rw [hashByValue_scannable 8 hsc]
      refine wpAny_pure ?_
      refine setS_tail ?_ ho hex hd g1 nd1 m1 b1 ?_ ?_ ?_ ?_
      · intro b s₁ Q' q; cases b <;> first | exact wpAny_pure q | exact wpAny_rule q
      · first | (split <;> first | exact f1 | exact SetTable.fits_plain_off f1) | exact f1
      · first | (split <;> exact r1) | exact r1
      · first | (split <;> exact led) | exact led
      · intro h' sb r; dsimp only; exact wpAny_pure (fin h' sb r)
    · refine wpAny_bind (wpAny_pure ?_)
      simp only [↓reduceIte]
      refine setS_tail ?_ ho hex hd g1 nd1 m1 b1 f1 r1 led ?_
      · intro b s₁ Q' q; cases b <;> first | exact wpAny_pure q | exact wpAny_rule q
      · intro h' sb r; dsimp only; exact wpAny_pure (fin h' sb r)
end
/-! ### set(xs) -/
section
variable {prog : Program} {w : World} {A : Around} {R : Result → Shared → Prop} {I : Addr} {fp wr : List Addr} {G : Array GenState → Array GenState → Prop} {n : Nat} {P : Nat → Value → Prop} {St : Nat → Shared → Prop}
theorem loopS (W : WalksS prog w A.in1 I fp wr G n P St) (Z : Addr) (hZf : Z ∉ fp) (xs : List Str) (hsz : xs.length = n) (hb : n < 4000)
    (hval : ∀ i v, P i v → ∃ t, v = .str (xs.getD i Str.empty) t) :
    ∀ (k i : Nat) (s : Shared), n - i = k → i ≤ n → St i s →
      (∃ c, c ≤ i ∧ SetS prog w s.heap Z (fun k' => (xs.take i).any (· == k')) c) →
      (∀ s', Moved (Z :: wr) G s s' → (∃ c, c ≤ n ∧ SetS prog w s'.heap Z (fun k' => (xs.take n).any (· == k')) c) → R (.ok (.ret .none)) s') →
      codeAny (model prog w) A (.builtin "set.update.loop" ⟨[.ref Z, .ref I], []⟩) R s := by
  have hZw : Z ∉ wr := fun h => hZf (W.sub _ h)
  have hsub : ∀ b ∈ wr, b ∈ Z :: wr := fun b hb => List.mem_cons_of_mem _ hb
  intro k
  induction k with
  | zero =>
    intro i s hk hi hst ⟨c, hc, hS⟩ hR
    have hin : i = n := by omega
    subst hin
    refine codeAny_builtin PyProof.Rows.F.entry_set_update_loop ?_
    rw [Around.under_plainId PyProof.Rows.F.plain_set_update_loop _]
    show wpAny _ A.in1 (pyNext (.ref I) >>= _) _ _ s
    refine wpAny_bind (W.done s _ _ hst fun s' hm => ?_)
    show wpAny _ A.in1 (ret Value.none) _ _ s'
    exact wpAny_pure (hR s' (hm.mono hsub) ⟨c, hc, hS.keep fun o => hm.heap Z o hZw⟩)
  | succ k ih =>
    intro i s hk hi hst ⟨c, hc, hS⟩ hR
    have hlt : i < n := by omega
    refine codeAny_builtin PyProof.Rows.F.entry_set_update_loop ?_
    rw [Around.under_plainId PyProof.Rows.F.plain_set_update_loop _]
    show wpAny _ A.in1 (pyNext (.ref I) >>= _) _ _ s
    refine wpAny_bind (W.item i s _ _ hlt hst fun v s' hP hst' hm => ?_)
    obtain ⟨t, rfl⟩ := hval i v hP
    have hS' := hS.keep (h' := s'.heap) fun o => hm.heap Z o hZw
    show wpAny _ A.in1 (holding [Value.str (xs.getD i Str.empty) t] (setAdd Z (.str (xs.getD i Str.empty) t)) >>= _) _ _ s'
    refine wpAny_bind (wpAny_holding ?_)
    unfold setAdd
    refine wpAny_holding ?_
    refine wpAny_bind ((PySem.strKind prog w).pyHash (k := xs.getD i Str.empty) (strKind_is _ _ _ _) ?_)
    refine setS_add (s := { s' with toks := s'.toks + 1 }) hS' (by unfold scanBound; omega) fun h' hsb hS2 => ?_
    have hSi : ∃ c', c' ≤ i + 1 ∧ SetS prog w h' Z (fun k' => (xs.take (i + 1)).any (· == k')) c' := by
      refine ⟨_, ?_, hS2.congr fun k' => ?_⟩
      · split <;> omega
      · rw [List.take_add_one, List.any_append]
        have hx : xs[i]? = some (xs.getD i Str.empty) := by
          rw [List.getD_eq_getElem?_getD, List.getElem?_eq_getElem (by omega)]; rfl
        rw [hx]
        show (_ || ([xs.getD i Str.empty].any (· == k'))) = _
        congr 1
        by_cases e : k' = xs.getD i Str.empty
        · subst e; simp
        · have hb : (xs.getD i Str.empty == k') = false := by
            rw [beq_eq_false_iff_ne]; exact fun z => e z.symm
          simp only [List.any_cons, List.any_nil, Bool.or_false, hb, decide_eq_false e]
    refine wpAny_pure ⟨plainId_quiet PyProof.Rows.F.plain_set_update_loop _, ih (i + 1) _ (by omega) hlt (W.frame _ s' _ _ hst' (Nat.le_succ _) fun b hb o e => ?_) hSi fun s'' hm'' hS'' => ?_⟩
    · rw [hsb.2 b (fun h : b = Z => hZf (by rw [← h]; exact hb))]; exact e
    · refine hR s'' (Moved.trans W.gtrans ((hm.mono hsub).then_heap (Nat.le_succ _) fun b o hb e => ?_) hm'') hS''
      rw [hsb.2 b (fun h : b = Z => hb (by rw [h]; exact List.mem_cons_self))]; exact e
end
section
variable {prog : Program} {w : World} {A : Around} {E : Value → Shared → Prop} {s : Shared}
theorem setS_fresh {h : Heap} {a : Addr} (hg : h.get? a = some { cls := .type "set", dict := none, data := .set #[] 0 (.fresh 0 0 (!w.params.followText "set-order")) }) : SetS prog w h a (fun k' => ([] : List Str).any (· == k')) 0 := by
  refine ⟨_, #[], 0, _, hg, ⟨rfl, rfl, rfl⟩, rfl, fun e he => by simp at he, by simp, fun k => by simp, by unfold scanBound; decide, rfl, rfl, ?_, ?_⟩
  · show Ris ([] : List Nat)
    exact List.Pairwise.nil
  · show _ ∨ (!w.params.followText "set-order") = true
    cases w.params.followText "set-order" <;> simp
theorem call_setL {l : Addr} {items : Array Value} {xs : List Str} {Q : Value → Shared → Prop}
    (hh : A.handled = none) (hl : s.heap.IsList l items) (hi : PyProof.Rows.StrsAre items.toList xs) (hn1 : xs.length < 4000)
    (h : ∀ (h' : Heap) (tk : Nat) (c : Nat), c ≤ xs.length → SetS prog w h' s.heap.objs.size (fun k' => xs.any (· == k')) c →
      (∀ b o, b < s.heap.objs.size → s.heap.get? b = some o → h'.get? b = some o) → Q (.ref s.heap.objs.size) { s with heap := h', toks := tk }) :
    wpAny (model prog w) A (call (.type "set") [.ref l]) Q E s := by
  obtain ⟨c, tl, hmro⟩ := PySem.F.called_set.mro
  have hmade := PySem.F.called_set.made
  have hsub := PySem.F.called_set.sub
  refine wpAny_call (codeAny_of_tree ?_)
  show wpAny _ _ (callAny (.type "set") _) _ _ _
  refine wpAny_pure ⟨Code.quiet_builtin _ (by decide +kernel), codeAny_builtin PySem.F.entry_type_call ?_⟩
  rw [Around.under_plain (weight_type_call_type "set" [.ref l] []) rfl]
  have h1 := PySem.F.called_set.notType
  have h2 := PySem.F.called_set.canCreate
  have hct := PySem.F.typeCall_set_1 (.ref l)
  repeat (any_goals (first | assumption | wp_step))
  refine codeAny_mono (L2.code_set_led1 (.ref l) (E := E) (Q₁ := fun obj s₁ => obj = .ref s.heap.objs.size ∧ s₁ = { s with heap := s.heap.push { cls := .type "set", dict := none, data := .set #[] 0 (.fresh 0 0 (!w.params.followText "set-order")) } }) ⟨rfl, rfl⟩) fun r s₁ hr => ?_
  cases r with
  | error e => exact hr
  | ok fl =>
    cases fl with
    | ret obj =>
      obtain ⟨rfl, rfl⟩ := hr
      have hS : (s.heap.push { cls := .type "set", dict := none, data := .set #[] 0 (.fresh 0 0 (!w.params.followText "set-order")) }).get? s.heap.objs.size = some { cls := .type "set", dict := none, data := .set #[] 0 (.fresh 0 0 (!w.params.followText "set-order")) } := Heap.get?_push_size _ rfl
      have hT : Shared.TypeIs { s with heap := s.heap.push { cls := .type "set", dict := none, data := .set #[] 0 (.fresh 0 0 (!w.params.followText "set-order")) } } (.ref s.heap.objs.size) "set" := ⟨_, hS, rfl⟩
      have hli := PySem.F.called_set.init.lookup
      have hbi := PySem.F.called_set.init.bind (.ref s.heap.objs.size)
      repeat (any_goals (first | assumption | wp_step))
      refine codeAny_mono (codeAny_call_builtin (R := wants (fun r s₂ => r = .none ∧ ∃ h' tk, s₂ = { s with heap := h', toks := tk } ∧
          (∃ c, c ≤ xs.length ∧ SetS prog w h' s.heap.objs.size (fun k' => xs.any (· == k')) c) ∧
          (∀ b o, b < s.heap.objs.size → s.heap.get? b = some o → h'.get? b = some o)) E) PySem.F.called_set.init.plain PySem.F.entry_set_init (check_set_init_1 hT ?_)) fun r₂ s₂ hr₂ => ?_
      · obtain ⟨ol, hol, hcl, nl, hdl⟩ := hl
        obtain ⟨ocls, odict, odata, oslots⟩ := ol
        simp only at hcl hdl
        subst hcl; subst hdl
        have hol' : (s.heap.push { cls := .type "set", dict := none, data := .set #[] 0 (.fresh 0 0 (!w.params.followText "set-order")) }).get? l = some { cls := .type "list", dict := odict, data := .seq items nl, slots := oslots } := Heap.get?_push_of_some _ hol
        have hsls := PySem.F.sub_list_set
        have hslf := PySem.F.sub_list_frozenset
        have hne : (Value.type "list" == Value.type "dict") = false := by decide
        have hl1 : (s.heap.push { cls := .type "set", dict := none, data := .set #[] 0 (.fresh 0 0 (!w.params.followText "set-order")) }).IsList l items := ⟨_, hol', rfl, nl, rfl⟩
        unfold Builtin.«set.__init__» noKeywords Builtin.Frozenset.updateFrom
        generalize hPI : pyIter = PI
        wp_walk
        subst hPI
        refine wpAny_pyIter_list hl1 ?_
        refine wpAny_bind (wpAny_runValue ?_)
        have hlS : l < s.heap.objs.size := Heap.lt_size hol
        have hh3 : A.in1.in1.in1.handled = none := by simp [hh]
        have hneI : l ≠ (s.heap.push { cls := .type "set", dict := none, data := .set #[] 0 (.fresh 0 0 (!w.params.followText "set-order")) }).objs.size := by
          rw [Heap.size_push]; exact Nat.ne_of_lt (Nat.lt_succ_of_lt hlS)
        have hSf : s.heap.objs.size ∉ [(s.heap.push { cls := .type "set", dict := none, data := .set #[] 0 (.fresh 0 0 (!w.params.followText "set-order")) }).objs.size, l] := by
          rw [Heap.size_push]; simp only [List.mem_cons, List.mem_singleton, List.not_mem_nil, or_false, not_or]
          exact ⟨Nat.ne_of_lt (Nat.lt_succ_self _), Nat.ne_of_gt hlS⟩
        have hsz : xs.length = items.size := by rw [← StrsAre.len_eq hi, Array.length_toList]
        have hval : ∀ (i : Nat) (v : Value), items[i]? = some v → ∃ t, v = .str (xs.getD i Str.empty) t := fun i v hv => SS.strs_at hi i v (by rw [Array.getElem?_toList]; exact hv)
        refine loopS ((Walks.list hh3 _ l hneI items).toS) s.heap.objs.size
          hSf xs hsz (by rw [← hsz]; exact hn1) hval (items.size - 0) 0 _ (by omega) (Nat.zero_le _)
          ⟨⟨_, Heap.get?_push_size _ rfl, rfl, rfl⟩, (hl1.push _)⟩ ⟨0, Nat.le_refl _, ?hS0⟩ ?hR
        case hS0 =>
          have hget : ((s.heap.push { cls := .type "set", dict := none, data := .set #[] 0 (.fresh 0 0 (!w.params.followText "set-order")) }).push { cls := .type "list_iterator", data := .fields #[.ref l, .int 0 0] }).get? s.heap.objs.size
              = some { cls := .type "set", dict := none, data := .set #[] 0 (.fresh 0 0 (!w.params.followText "set-order")) } := Heap.get?_push_of_some _ hS
          exact setS_fresh hget
        case hR =>
          intro s' hm hS'
          obtain ⟨h', g', d', tk', os'⟩ := s'
          have eg : g' = s.gens := hm.gens
          have ed : d' = s.drawn := hm.drawn
          have eo : os' = s.os := hm.os
          subst eg; subst ed; subst eo
          rw [← hsz, List.take_of_length_le (Nat.le_refl _)] at hS'
          show wpAny _ _ _ _ _ _
          refine wpAny_pure ?_
          show wpAny _ _ (ret Value.none) _ _ _
          refine wpAny_pure ⟨rfl, h', tk', rfl, hS', fun b o hb e => ?_⟩
          have hb1 : b ≠ s.heap.objs.size := Nat.ne_of_lt hb
          have hb2 : b ≠ (s.heap.push { cls := .type "set", dict := none, data := .set #[] 0 (.fresh 0 0 (!w.params.followText "set-order")) }).objs.size := by
            rw [Heap.size_push]; exact Nat.ne_of_lt (Nat.lt_succ_of_lt hb)
          exact hm.heap b o (by simp only [List.mem_cons, List.mem_singleton, List.not_mem_nil, or_false, not_or]; exact ⟨hb1, hb2⟩) (Heap.get?_push_of_some _ (Heap.get?_push_of_some _ e))
      · cases r₂ with
        | error e => exact hr₂
        | ok fl₂ =>
          cases fl₂ with
          | ret r =>
            obtain ⟨rfl, h', tk, rfl, ⟨c, hc, hS'⟩, hk'⟩ := hr₂
            repeat (any_goals (first | assumption | wp_step))
            exact h _ _ c hc hS' hk'
          | _ => exact hr₂.elim
    | _ => exact hr.elim
theorem call_setT {l : Addr} {items : Array Value} {xs : List Str} {Q : Value → Shared → Prop}
    (hh : A.handled = none) (hl : s.heap.IsTuple l items) (hi : PyProof.Rows.StrsAre items.toList xs) (hn1 : xs.length < 4000)
    (h : ∀ (h' : Heap) (tk : Nat) (c : Nat), c ≤ xs.length → SetS prog w h' s.heap.objs.size (fun k' => xs.any (· == k')) c →
      (∀ b o, b < s.heap.objs.size → s.heap.get? b = some o → h'.get? b = some o) → Q (.ref s.heap.objs.size) { s with heap := h', toks := tk }) :
    wpAny (model prog w) A (call (.type "set") [.ref l]) Q E s := by
  obtain ⟨c, tl, hmro⟩ := PySem.F.called_set.mro
  have hmade := PySem.F.called_set.made
  have hsub := PySem.F.called_set.sub
  refine wpAny_call (codeAny_of_tree ?_)
  show wpAny _ _ (callAny (.type "set") _) _ _ _
  refine wpAny_pure ⟨Code.quiet_builtin _ (by decide +kernel), codeAny_builtin PySem.F.entry_type_call ?_⟩
  rw [Around.under_plain (weight_type_call_type "set" [.ref l] []) rfl]
  have h1 := PySem.F.called_set.notType
  have h2 := PySem.F.called_set.canCreate
  have hct := PySem.F.typeCall_set_1 (.ref l)
  repeat (any_goals (first | assumption | wp_step))
  refine codeAny_mono (L2.code_set_led1 (.ref l) (E := E) (Q₁ := fun obj s₁ => obj = .ref s.heap.objs.size ∧ s₁ = { s with heap := s.heap.push { cls := .type "set", dict := none, data := .set #[] 0 (.fresh 0 0 (!w.params.followText "set-order")) } }) ⟨rfl, rfl⟩) fun r s₁ hr => ?_
  cases r with
  | error e => exact hr
  | ok fl =>
    cases fl with
    | ret obj =>
      obtain ⟨rfl, rfl⟩ := hr
      have hS : (s.heap.push { cls := .type "set", dict := none, data := .set #[] 0 (.fresh 0 0 (!w.params.followText "set-order")) }).get? s.heap.objs.size = some { cls := .type "set", dict := none, data := .set #[] 0 (.fresh 0 0 (!w.params.followText "set-order")) } := Heap.get?_push_size _ rfl
      have hT : Shared.TypeIs { s with heap := s.heap.push { cls := .type "set", dict := none, data := .set #[] 0 (.fresh 0 0 (!w.params.followText "set-order")) } } (.ref s.heap.objs.size) "set" := ⟨_, hS, rfl⟩
      have hli := PySem.F.called_set.init.lookup
      have hbi := PySem.F.called_set.init.bind (.ref s.heap.objs.size)
      repeat (any_goals (first | assumption | wp_step))
      refine codeAny_mono (codeAny_call_builtin (R := wants (fun r s₂ => r = .none ∧ ∃ h' tk, s₂ = { s with heap := h', toks := tk } ∧
          (∃ c, c ≤ xs.length ∧ SetS prog w h' s.heap.objs.size (fun k' => xs.any (· == k')) c) ∧
          (∀ b o, b < s.heap.objs.size → s.heap.get? b = some o → h'.get? b = some o)) E) PySem.F.called_set.init.plain PySem.F.entry_set_init (check_set_init_1 hT ?_)) fun r₂ s₂ hr₂ => ?_
      · obtain ⟨ol, hol, hcl, nl, hdl⟩ := hl
        obtain ⟨ocls, odict, odata, oslots⟩ := ol
        simp only at hcl hdl
        subst hcl; subst hdl
        have hol' : (s.heap.push { cls := .type "set", dict := none, data := .set #[] 0 (.fresh 0 0 (!w.params.followText "set-order")) }).get? l = some { cls := .type "tuple", dict := odict, data := .seq items nl, slots := oslots } := Heap.get?_push_of_some _ hol
        have hsls := PySem.F.sub_tuple_set
        have hslf := PySem.F.sub_tuple_frozenset
        have hne : (Value.type "tuple" == Value.type "dict") = false := by decide
        have hl1 : (s.heap.push { cls := .type "set", dict := none, data := .set #[] 0 (.fresh 0 0 (!w.params.followText "set-order")) }).IsTuple l items := ⟨_, hol', rfl, nl, rfl⟩
        unfold Builtin.«set.__init__» noKeywords Builtin.Frozenset.updateFrom
        generalize hPI : pyIter = PI
        wp_walk
        subst hPI
        refine wpAny_pyIter_tuple hl1 ?_
        refine wpAny_bind (wpAny_runValue ?_)
        have hlS : l < s.heap.objs.size := Heap.lt_size hol
        have hh3 : A.in1.in1.in1.handled = none := by simp [hh]
        have hneI : l ≠ (s.heap.push { cls := .type "set", dict := none, data := .set #[] 0 (.fresh 0 0 (!w.params.followText "set-order")) }).objs.size := by
          rw [Heap.size_push]; exact Nat.ne_of_lt (Nat.lt_succ_of_lt hlS)
        have hSf : s.heap.objs.size ∉ [(s.heap.push { cls := .type "set", dict := none, data := .set #[] 0 (.fresh 0 0 (!w.params.followText "set-order")) }).objs.size, l] := by
          rw [Heap.size_push]; simp only [List.mem_cons, List.mem_singleton, List.not_mem_nil, or_false, not_or]
          exact ⟨Nat.ne_of_lt (Nat.lt_succ_self _), Nat.ne_of_gt hlS⟩
        have hsz : xs.length = items.size := by rw [← StrsAre.len_eq hi, Array.length_toList]
        have hval : ∀ (i : Nat) (v : Value), items[i]? = some v → ∃ t, v = .str (xs.getD i Str.empty) t := fun i v hv => SS.strs_at hi i v (by rw [Array.getElem?_toList]; exact hv)
        refine loopS ((Walks.tuple hh3 _ l hneI items).toS) s.heap.objs.size
          hSf xs hsz (by rw [← hsz]; exact hn1) hval (items.size - 0) 0 _ (by omega) (Nat.zero_le _)
          ⟨⟨_, Heap.get?_push_size _ rfl, rfl, rfl⟩, (hl1.push _)⟩ ⟨0, Nat.le_refl _, ?hS0⟩ ?hR
        case hS0 =>
          have hget : ((s.heap.push { cls := .type "set", dict := none, data := .set #[] 0 (.fresh 0 0 (!w.params.followText "set-order")) }).push { cls := .type "tuple_iterator", data := .fields #[.ref l, .int 0 0] }).get? s.heap.objs.size
              = some { cls := .type "set", dict := none, data := .set #[] 0 (.fresh 0 0 (!w.params.followText "set-order")) } := Heap.get?_push_of_some _ hS
          exact setS_fresh hget
        case hR =>
          intro s' hm hS'
          obtain ⟨h', g', d', tk', os'⟩ := s'
          have eg : g' = s.gens := hm.gens
          have ed : d' = s.drawn := hm.drawn
          have eo : os' = s.os := hm.os
          subst eg; subst ed; subst eo
          rw [← hsz, List.take_of_length_le (Nat.le_refl _)] at hS'
          show wpAny _ _ _ _ _ _
          refine wpAny_pure ?_
          show wpAny _ _ (ret Value.none) _ _ _
          refine wpAny_pure ⟨rfl, h', tk', rfl, hS', fun b o hb e => ?_⟩
          have hb1 : b ≠ s.heap.objs.size := Nat.ne_of_lt hb
          have hb2 : b ≠ (s.heap.push { cls := .type "set", dict := none, data := .set #[] 0 (.fresh 0 0 (!w.params.followText "set-order")) }).objs.size := by
            rw [Heap.size_push]; exact Nat.ne_of_lt (Nat.lt_succ_of_lt hb)
          exact hm.heap b o (by simp only [List.mem_cons, List.mem_singleton, List.not_mem_nil, or_false, not_or]; exact ⟨hb1, hb2⟩) (Heap.get?_push_of_some _ (Heap.get?_push_of_some _ e))
      · cases r₂ with
        | error e => exact hr₂
        | ok fl₂ =>
          cases fl₂ with
          | ret r =>
            obtain ⟨rfl, h', tk, rfl, ⟨c, hc, hS'⟩, hk'⟩ := hr₂
            repeat (any_goals (first | assumption | wp_step))
            exact h _ _ c hc hS' hk'
          | _ => exact hr₂.elim
    | _ => exact hr.elim

end

/-! ### sorted(set(texts)) -/
def sOf : Value → Str
  | .str k _ => k
  | _ => Str.empty
theorem keyS_sOf (e : Int × Value) : keyS e = sOf e.2 := by
  obtain ⟨i, v⟩ := e
  cases v <;> rfl
theorem strsOf_list : ∀ (l : List Value), (∀ v ∈ l, ∃ k tk, v = Value.str k tk) → StrsAre l (l.map sOf)
  | [], _ => .nil
  | v :: l, h => by
    obtain ⟨k, tk, rfl⟩ := h v List.mem_cons_self
    exact .cons k tk (strsOf_list l fun z hz => h z (List.mem_cons_of_mem _ hz))
section
variable {P : Program} {w : World} {A : Around} {E : Value → Shared → Prop} {s : Shared} {a : Addr} {T : Str → Bool} {n : Nat}
theorem sorted_setS {Q : Value → Shared → Prop} (R : SetS P w s.heap a T n) (hh : A.handled = none) (h64 : n < 64)
    (hQ : ∀ s' p (out : Array Value) (c : Nat) (ns : List Str), (∀ b o, s.heap.get? b = some o → s'.heap.get? b = some o) → s'.gens = s.gens → s'.os = s.os → s.heap.objs.size ≤ p →
      s'.heap.get? p = some (seqObj "list" out c) → StrsAre out.toList ns → sortedS ns = true → ns.Nodup → (∀ k, k ∈ ns ↔ T k = true) → ns.length = n → Q (.ref p) s') :
    wpAny (model P w) A (call (.builtin "sorted") [.ref a]) Q E s := by
  obtain ⟨o, es, ep, t, ho, hex, hd, g, nd, hm, hb, hf, hn, hr, hl⟩ := R
  refine Calls.call_function_entry kind_sorted plain_sorted entry_sorted (args_sorted1 _) ?_
  unfold Builtin.«sorted»
  refine wpAny_bind (m := checkCount "sorted" 1 1 _) (wpAny_pure ?_)
  refine wpAny_bind (collect_set (A := A.in1) hh ⟨o, ho, hex.1, hd⟩ hf hb hr hl fun s1 vs k1 hz g1 o1 pm => ?_)
  have hvl : vs.length = n := by rw [pm.length_eq, List.length_map, Array.length_toList]; exact hn
  have hI : StrsAre vs (vs.map sOf) := strsOf_list vs fun v hv => by
    obtain ⟨e, he, q⟩ := List.mem_map.mp (pm.mem_iff.mp hv)
    obtain ⟨k, tk, h1, _⟩ := g e he
    exact ⟨k, tk, by rw [← q]; exact h1⟩
  have pk : (vs.map sOf).Perm (es.toList.map keyS) := by
    have q := pm.map sOf
    rw [List.map_map] at q
    rw [show es.toList.map keyS = es.toList.map (sOf ∘ fun x => x.2) from List.map_congr_left fun e _ => keyS_sOf e]
    exact q
  refine wpAny_bind (wpAny_newList ?_ (by rw [hvl, sizeLine_eq]; omega))
  have hoL : (s1.heap.push (seqObj "list" vs.toArray 0)).get? s1.heap.objs.size = some (seqObj "list" vs.toArray 0) := Heap.get?_push_size _ rfl
  refine wpAny_bind (wpAny_holding (wpAny_call_entry slot_list_sort ⟨_, hoL, rfl⟩ entry_list_sort
    (list_sort_treeK strKind_oneLt (s := { s1 with heap := s1.heap.push (seqObj "list" vs.toArray 0) }) hoL hI.keysOf (fun v₁ v₂ rest e => keyKind_strs (by rw [← e]; exact hI)) (by rw [hvl]; exact h64) fun st' hp hs => ⟨_, rfl, ?_⟩) (args_list_sort _)))
  obtain ⟨ns', a1, a2, a3⟩ := sorted_out_str hI hp hs
  obtain ⟨c, hc⟩ := sortedHeap_at (vs := vs) (out := (arrOf st').map (·.2)) hoL
  have pn : ns'.Perm (es.toList.map keyS) := a2.trans pk
  refine wpAny_pure ⟨_, rfl, hQ _ s1.heap.objs.size _ c ns' (fun b u e => ?_) g1 o1 hz hc a1 a3 (pn.nodup_iff.mpr nd) (fun k => by rw [pn.mem_iff, ← hm k]) ?_⟩
  · have q := k1 b u e
    have hlt := Heap.lt_size q
    show (sortedHeap (s1.heap.push (seqObj "list" vs.toArray 0)) s1.heap.objs.size vs ((arrOf st').map (·.2))).get? b = some u
    rw [sortedHeap_old (Nat.ne_of_lt hlt) (by rw [size_push']; exact Nat.lt_succ_of_lt hlt)]
    exact Heap.get?_push_of_some _ q
  · rw [pn.length_eq, List.length_map, Array.length_toList]; exact hn
end
/-! the list without what stands twice -/
theorem dropT_sub : ∀ l : List (List Nat), (dropT l).Sublist l
  | [] => List.Sublist.refl _
  | [x] => List.Sublist.refl _
  | x :: y :: r => by
    unfold dropT
    dsimp only
    by_cases h : (x == y) = true
    · rw [if_pos h]; exact (dropT_sub (y :: r)).cons x
    · rw [if_neg h]; exact (dropT_sub (y :: r)).cons₂ x
theorem dropT_mem (z : List Nat) : ∀ l : List (List Nat), z ∈ dropT l ↔ z ∈ l
  | [] => Iff.rfl
  | [x] => Iff.rfl
  | x :: y :: r => by
    have ih := dropT_mem z (y :: r)
    unfold dropT
    dsimp only
    by_cases h : (x == y) = true
    · rw [if_pos h, ih]
      have e : x = y := eq_of_beq h
      subst e
      simp
    · rw [if_neg h, List.mem_cons, ih, List.mem_cons (a := z) (b := x)]
theorem dropT_nodup : ∀ l : List (List Nat), l.Pairwise leL → (dropT l).Nodup
  | [], _ => List.nodup_nil
  | [x], _ => by show [x].Nodup; simp
  | x :: y :: r, h => by
    have h' := List.pairwise_cons.mp h
    have ih := dropT_nodup (y :: r) h'.2
    unfold dropT
    dsimp only
    by_cases hx : (x == y) = true
    · rw [if_pos hx]; exact ih
    · rw [if_neg hx]
      refine List.nodup_cons.mpr ⟨fun hm => ?_, ih⟩
      rw [dropT_mem] at hm
      have hxy : leL x y := h'.1 y List.mem_cons_self
      rcases List.mem_cons.mp hm with e | e
      · exact hx (beq_iff_eq.mpr e)
      · exact hx (beq_iff_eq.mpr (leL_anti hxy ((List.pairwise_cons.mp h'.2).1 x e)))
theorem setlist_is {ys : List Str} {ts : List (List Nat)} (nd : ys.Nodup) (hm : ∀ k, k ∈ ys ↔ (ts.map sT).any (· == k) = true) (h : sortedS ys = true) : ys = (dropT (sortT ts)).map sT := by
  have inj : ∀ x y : List Nat, sT x = sT y → x = y := fun x y e => congrArg uT e
  have h2 : ((dropT (sortT ts)).map sT).Pairwise fun a b => leL (uT a) (uT b) := by
    rw [List.pairwise_map]
    exact (sortT_sorted ts).sublist (dropT_sub _)
  have nd2 : ((dropT (sortT ts)).map sT).Nodup := by
    unfold List.Nodup
    rw [List.pairwise_map]
    exact (dropT_nodup _ (sortT_sorted ts)).imp fun {a b} q e => q (inj _ _ e)
  have hp : ys.Perm ((dropT (sortT ts)).map sT) := by
    rw [List.perm_ext_iff_of_nodup nd nd2]
    intro k
    rw [hm k, List.any_eq_true]
    constructor
    · rintro ⟨x, hx, e⟩
      have e : x = k := eq_of_beq e
      subst e
      obtain ⟨t, ht, rfl⟩ := List.mem_map.mp hx
      exact List.mem_map_of_mem ((dropT_mem _ _).mpr ((sortT_perm ts).mem_iff.mpr ht))
    · intro hk
      obtain ⟨t, ht, rfl⟩ := List.mem_map.mp hk
      exact ⟨sT t, List.mem_map_of_mem ((sortT_perm ts).mem_iff.mp ((dropT_mem _ _).mp ht)), by simp⟩
  refine List.Perm.eq_of_pairwise (le := fun a b => leL (uT a) (uT b)) (fun a b _ _ h1 h2 => ?_) (sorted_pair h) h2 hp
  have := leL_anti h1 h2
  rw [← sT_uT a, ← sT_uT b, this]
section
variable {G : Rt} {X : Cx} {W : WX}
theorem set_sorted {pins : List (Addr × Obj)} {σ : L2.St} {H : Hp} {s : Shared} {Q : VK} {F : Hp} {ρ : List Addr} {S : Store} {p : PV} {v : V} {u : Value} (hc : X.calm = true) (hK : X.K = G.K)
    (I : Inv X pins σ H s) (r : RelV v u) (hS : SR G F ρ H S) (q : rv G F ρ p v)
    (hP : Post G F ρ H (opt (ssetD p S) S) (rv G) Q (fun cls d H' => W cls d σ H')) :
    wpAny (model X.prog X.w) X.A (PySem.call (.type "set") [u]) (fun v2 s2 => wpAny (model X.prog X.w) X.A (PySem.call (.builtin "sorted") [v2]) (EP X pins σ Q) X.xe s2) X.xe s := by
  unfold ssetD at hP
  cases hi : items S p with
  | none => rw [hi] at hP; exact hP.elim
  | some xs =>
    rw [hi] at hP
    cases ht : strsO xs with
    | none => simp only [Option.bind, ht] at hP; exact hP.elim
    | some ts =>
      simp only [Option.bind, ht] at hP
      by_cases hl : ts.length < 64
      · rw [if_pos hl] at hP
        obtain ⟨a, vs, rfl, sq, rr⟩ := items_ok hS q hi
        have e := strs_of ht rr
        subst e
        cases r
        have hd := I.ok.hd hc
        have fin : ∀ (h' : Heap) (tk c : Nat), c ≤ (ts.map sT).length → SetS X.prog X.w h' s.heap.objs.size (fun k' => (ts.map sT).any (· == k')) c →
            (∀ b o, b < s.heap.objs.size → s.heap.get? b = some o → h'.get? b = some o) →
            wpAny (model X.prog X.w) X.A (PySem.call (.builtin "sorted") [.ref s.heap.objs.size]) (EP X pins σ Q) X.xe { s with heap := h', toks := tk } := by
          intro h' tk c hcn R k
          have k' : ∀ b o, s.heap.get? b = some o → h'.get? b = some o := fun b o e => k b o (Heap.lt_size e) e
          rw [List.length_map] at hcn
          refine sorted_setS (s := { s with heap := h', toks := tk }) R hd (by omega) fun s' p out c' ns k2 g o hp hg hi2 hs nd hm hl2 => ?_
          have hle : s.heap.objs.size ≤ p := by
            obtain ⟨oS, _, _, _, hoS, _⟩ := R
            exact Nat.le_trans (Nat.le_of_lt (Heap.lt_size hoS)) hp
          have hn : H p = none := I.hok.fresh hle
          have hlen : (ns.map V.str).length ≤ sizeLine := by rw [List.length_map, hl2, sizeLine_eq]; omega
          have kk : ∀ b o, s.heap.get? b = some o → s'.heap.get? b = some o := fun b o e => k2 b o (k' b o e)
          have J : Inv X pins σ (upd H p (.lst (ns.map V.str))) { s with heap := s'.heap, gens := s'.gens, drawn := s'.drawn, toks := s'.toks } :=
            I.call (ch := []) (Un.laid kk hle hn) (I.hok.laid kk hle ⟨hlen, out.toList, c', vals_of_strs hi2, hg⟩) (by rw [g]; exact I.bare) (fun _ z => nomatch z)
          have e : s' = { s with heap := s'.heap, gens := s'.gens, drawn := s'.drawn, toks := s'.toks } := by
            cases s'
            cases s
            cases o
            rfl
          rw [e]
          refine ⟨.ref p, _, J, rfl, ?_⟩
          have e3 := setlist_is nd hm hs
          rw [e3]
          exact mk_lst hP hS (rvs_strs fun t h => strs_ok ht rr t ((sortT_perm ts).mem_iff.mp ((dropT_mem _ _).mp h))) p hn
        have h4 : (ts.map sT).length < 4000 := by rw [List.length_map]; omega
        rcases seqK hK sq with z | z
        · obtain ⟨its, r', hl', hz⟩ := I.list z
          exact call_setL hd hl'.isList (by simpa using strs_of_vals r') h4 fin
        · obtain ⟨its, r', pt, hz⟩ := I.tuple z
          exact call_setT hd (show s.heap.IsTuple _ its.toArray from pt) (by simpa using strs_of_vals r') h4 fin
      · rw [if_neg hl] at hP; exact hP.elim
variable {a : Expr} {p1 p2 pos1 pos2 : Pos} {x : Env → Store → R PV}
/-- sorted(set(a)) -/
theorem se_sset (hc : X.calm = true) (hK : X.K = G.K) (hg : Gl X "sorted") (hm : X.mg "sorted" = none) (hg2 : Gl X "set") (hm2 : X.mg "set" = none) (hst : nostar a = true) (he : PE X a (tE G W x)) :
    PE X (.Call (.Name "sorted" p1) [.Call (.Name "set" p2) [a] [] pos2] [] pos1)
      (tE G W fun e S => (x e S).bind fun p S => opt (ssetD p S) S) := by
  refine ⟨fun pins s σ H Q I ⟨F, ρ, e, S, hS, hE, hP⟩ => ?_⟩
  refine wpAny_Call_Name_kw (ld_blt I hg hm PyProof.Rows.boot_sorted ?_)
  refine PyProof.Rows.callWith_builtin1 (Calls.spliced_cons ?_) rfl rfl
  refine wpAny_Call_Name_kw (ld_blt I hg2 hm2 PyProof.Rows.boot_set ?_)
  refine PyProof.Rows.callWith_type1 ?_ (star_no hst) rfl
  rw [star_no hst]
  refine Calls.spliced_cons ?_
  refine thn (he.run pins s σ H (fun x H1 => ∃ F ρ S p, SR G F ρ H1 S ∧ rv G F ρ p x ∧ Post G F ρ H1 (opt (ssetD p S) S) (rv G) Q (fun cls d H' => W cls d σ H')) I ⟨F, ρ, e, S, hS, hE, ?_⟩) fun v s1 ⟨y, H1, I1, r1, q1⟩ => ?_
  · dsimp only at hP
    cases hx : x e S with
    | exc z S1 => rw [hx] at hP; exact hP
    | bad => rw [hx] at hP; exact hP.elim
    | ok p S1 =>
      rw [hx] at hP
      intro F1 ρ1 H1 v x1 hS1 q1
      have hP1 := Post.mono x1 hP
      simp only [bind_ok] at hP1
      exact ⟨F1, ρ1, S1, p, hS1, q1, hP1⟩
  obtain ⟨F1, ρ1, S1, p, hS1, hv, hP1⟩ := q1
  refine Calls.spliced_nil ?_
  refine wpAny_mono (set_sorted hc hK I1 r1 hS1 hv hP1) (fun v2 s2 h => Calls.spliced_nil h) fun _ _ z => z
end
end Ev
set_option Elab.async false
set_option linter.all false
set_option maxRecDepth 100000
set_option maxHeartbeats 1000000
/-! E41: list(range(..)), tuple(range(..)). -/
namespace Ev
open PySem L2
open PyProof.Rows hiding St

theorem upFrom_map (a : Int) : ∀ n : Nat, upFrom a n = (List.range n).map fun i => PV.int (a + (i : Nat))
  | 0 => rfl
  | n + 1 => by
    rw [List.range_succ_eq_map, List.map_cons, List.map_map]
    unfold upFrom
    rw [upFrom_map (a + 1) n]
    congr 1
    · simp
    · refine List.map_congr_left fun i _ => ?_
      show PV.int (a + 1 + (i : Nat)) = PV.int (a + ((i + 1 : Nat) : Int))
      congr 1
      omega
section
variable {G : Rt} {X : Cx} {W : WX}
theorem rvs_up {F : Hp} {ρ : List Addr} (a b : Int) : rvs G F ρ (upFrom a (b - a).toNat) (rgV a b) := by
  rw [upFrom_map]
  unfold rgV
  generalize (b - a).toNat = n
  have key : ∀ l : List Nat, rvs G F ρ (l.map fun i => PV.int (a + (i : Nat))) (l.map fun i => V.int (a + (i : Nat))) := by
    intro l
    induction l with
    | nil => unfold rvs; rfl
    | cons x l ih =>
      rw [List.map_cons, List.map_cons]
      unfold rvs
      exact ⟨_, _, rfl, by unfold rv; rfl, ih⟩
  exact key _
/-- range of one or two values, by the list of its arguments -/
def tRgL (ta : TA) : L2.St → Hp → (Int → Int → Hp → Prop) → Prop := fun σ H Q => ta σ H fun vs H1 => (∃ n, vs = [.int n] ∧ Q 0 n H1) ∨ ∃ i j, vs = [.int i, .int j] ∧ Q i j H1
theorem prg_L {a : Expr} {es : List Expr} {ta : TA} {p pos : Pos} (hg : Gl X "range") (hm : X.mg "range" = none) (hst : (a :: es).all nostar = true) (ha : PA X (a :: es) ta) : PRg X (.Call (.Name "range" p) (a :: es) [] pos) (tRgL ta) := by
  have hst' := Bool.and_eq_true_iff.mp (List.all_cons ▸ hst)
  intro pins s σ H Q I h
  refine wpAny_Call_Name_kw (ld_blt I hg hm PyProof.Rows.boot_range ?_)
  refine PyProof.Rows.callWith_type1 (thn (ha.run pos pins s σ H _ I h) fun us s1 ⟨vs, H1, I1, r1, q1⟩ => ?_) (star_no hst'.1) (star_any_false hst'.2)
  rcases q1 with ⟨n, rfl, q⟩ | ⟨i, j, rfl, q⟩
  · obtain ⟨u, rfl, t, rfl⟩ := vals1 r1
    exact call_range_1 ⟨_, 0, n, _, _, _, H1, rfl, IsRange.new _ _ _ _ _ _ _, I1.kept fun b u e => Heap.get?_push_of_some _ e, q⟩
  · obtain ⟨u, w, rfl, ⟨t, rfl⟩, t', rfl⟩ := r1.two
    exact call_range_2 ⟨_, i, j, _, _, _, H1, rfl, IsRange.new _ _ _ _ _ _ _, I1.kept fun b u e => Heap.get?_push_of_some _ e, q⟩
theorem rg_small {a b : Int} (h1 : rangeOk a = true) (h2 : rangeOk b = true) (hl : (b - a).toNat ≤ lim) : RgOk a b := by
  have r1 := range_bounds h1
  have r2 := range_bounds h2
  refine ⟨r1.1, r1.2, r2.1, r2.2, Nat.le_trans hl (by decide)⟩
theorem se_lrange {t : Bool} {a : Expr} {es : List Expr} {p1 p2 pos1 pos2 : Pos} {nm : Str} {x : Env → Store → R (List PV)} (hc : X.calm = true) (hn : nm = Str.ofString (if t then "tuple" else "list")) (hg : Gl X nm) (hm : X.mg nm = none) (hg2 : Gl X "range") (hm2 : X.mg "range" = none)
    (hst : (a :: es).all nostar = true) (ha : PA X (a :: es) (tL G W x)) (h12 : ∀ e S ps S', x e S = .ok ps S' → ps.length = 1 ∨ ps.length = 2) :
    PE X (.Call (.Name nm p1) [.Call (.Name "range" p2) (a :: es) [] pos2] [] pos1) (tE G W fun e S => (x e S).bind fun ps S => lrD t ps S) := by
  have hr := prg_L (p := p2) (pos := pos2) hg2 hm2 hst ha
  have go : ∀ (Qq : V → Hp → Prop) (σ : L2.St) (H F : Hp) (ρ : List Addr) (e : Env) (S : Store), SR G F ρ H S → rE G F ρ e σ → Post G F ρ H ((x e S).bind fun ps S => lrD t ps S) (rv G) Qq (fun cls d H' => W cls d σ H') →
      tRgL (tL G W x) σ H fun a b H1 => RgOk a b ∧ ∀ q, H1 q = none → Qq (.ref q) (upd H1 q (if t then .tup (rgV a b) else .lst (rgV a b))) := by
    intro Qq σ H F ρ e S hS hE hP
    refine ⟨F, ρ, e, S, hS, hE, ?_⟩
    cases hx : x e S with
    | bad => rw [hx] at hP; exact hP.elim
    | exc z S1 => rw [hx] at hP; exact hP
    | ok ps S1 =>
      rw [hx] at hP
      intro F1 ρ1 H1 vs x1 hS1 q1
      have hP1 := Post.mono x1 hP
      simp only [bind_ok] at hP1
      unfold lrD at hP1
      have fin : ∀ a b : Int, rangeD ps = some (upFrom a (b - a).toNat) → rangeOk a = true → rangeOk b = true →
          RgOk a b ∧ ∀ q, H1 q = none → Qq (.ref q) (upd H1 q (if t then .tup (rgV a b) else .lst (rgV a b))) := by
        intro a b h1 h2 h3
        rw [h1] at hP1
        simp only [opt_some, bind_ok] at hP1
        by_cases hl : (upFrom a (b - a).toNat).length ≤ lim
        · rw [if_pos hl] at hP1
          refine ⟨rg_small h2 h3 (by rw [upFrom_len] at hl; exact hl), fun q hq => ?_⟩
          cases t with
          | true => exact mk_tup hP1 hS1 (rvs_up a b) q hq
          | false => exact mk_lst hP1 hS1 (rvs_up a b) q hq
        · rw [if_neg hl] at hP1; exact hP1.elim
      match ps, h12 e S ps S1 hx, q1, fin with
      | [p], _, q1, fin =>
        cases p with
        | int n =>
          obtain ⟨v, r, rfl, q2, q3⟩ := rvs_cons q1
          have e1 := rv_int q2
          have e2 := rvs_nil q3
          subst e1; subst e2
          by_cases hr : rangeOk n = true
          · refine .inl ⟨n, rfl, fin 0 n ?_ (by decide) hr⟩
            simp only [rangeD, if_pos hr, Int.sub_zero]
          · simp only [rangeD, if_neg hr] at hP1; exact hP1.elim
        | _ => exact (show False from hP1).elim
      | [p, q], _, q1, fin =>
        cases p with
        | int n =>
          cases q with
          | int m =>
            obtain ⟨v, r, rfl, q2, q3⟩ := rvs_cons q1
            obtain ⟨v', r', rfl, q4, q5⟩ := rvs_cons q3
            have e1 := rv_int q2
            have e2 := rvs_nil q5
            have e3 := rv_int q4
            subst e1; subst e2; subst e3
            by_cases hr : (rangeOk n && rangeOk m) = true
            · refine .inr ⟨n, m, rfl, fin n m ?_ (Bool.and_eq_true_iff.mp hr).1 (Bool.and_eq_true_iff.mp hr).2⟩
              simp only [rangeD, if_pos hr]
            · simp only [rangeD, if_neg hr] at hP1; exact hP1.elim
          | _ => exact (show False from hP1).elim
        | _ => exact (show False from hP1).elim
      | [], h, _, _ => rcases h with h | h <;> cases h
      | _ :: _ :: _ :: _, h, _, _ => rcases h with h | h <;> simp at h
  subst hn
  cases t with
  | true => exact ⟨fun pins s σ H Q I ⟨F, ρ, e, S, hS, hE, hP⟩ => (pe_tupRg (p := p1) (pos := pos1) hc hg hm hr).run pins s σ H Q I (go Q σ H F ρ e S hS hE hP)⟩
  | false => exact ⟨fun pins s σ H Q I ⟨F, ρ, e, S, hS, hE, hP⟩ => (pe_listRg (p := p1) (pos := pos1) hc hg hm hr).run pins s σ H Q I (go Q σ H F ρ e S hS hE hP)⟩
end
end Ev
set_option Elab.async false
set_option linter.all false
set_option maxRecDepth 100000
set_option maxHeartbeats 1000000
/-! E42: instances made with keywords. -/
namespace Ev
open PySem L2
open PyProof.Rows hiding St

section
variable {G : Rt} {X : Cx} {W : WX} {pins : List (Addr × Obj)} {σ : Slots} {H : Hp} {s : Shared} {F : Hp} {ρ : List Addr} {e : Env} {S : Store} {pos : Pos} {k : Nat} {f C : Addr} {fa : Nat → Addr} {call : Calls}
/-- a call with keywords, whatever is called -/
theorem kw_run {es : List Expr} {kws : List Keyword} {l kl : Env → Store → R (List PV)} {ks0 : List Str} {fv : Value} {first : List Value} {g : List PV → List PV → Store → R PV} {Q : VK} (hkp : PySem.W.keepIn X.K fv = true)
    (hst : es.all nostar = true) (hl : PA X es (tL G W l)) (hk : PK X kws (tL G W kl)) (hks : kws.map (·.arg) = ks0.map some)
    (I : Inv X pins σ H s) (hS : SR G F ρ H S) (hE : rE G F ρ e σ)
    (hP : Post G F ρ H ((l e S).bind fun ps S => (kl e S).bind fun qs S => g ps qs S) (rv G) Q (fun cls d H' => W cls d σ H'))
    (fin0 : ∀ ps qs S2 F2 ρ2 H2 vs zs us ws s2, Inv X pins σ H2 s2 → Vals vs us → Vals zs ws → SR G F2 ρ2 H2 S2 → Ext F ρ H F2 ρ2 H2 → rvs G F2 ρ2 ps vs → rvs G F2 ρ2 qs zs → Post G F2 ρ2 H2 (g ps qs S2) (rv G) Q (fun cls d H' => W cls d σ H') →
      wpAny (model X.prog X.w) X.A (PySem.call fv (first ++ us) (ks0.zip ws)) (EP X pins σ Q) X.xe s2) :
    wpAny (model X.prog X.w) X.A (callWith pos fv first (backTo pos (starEach es X.env)) (backToKw pos (keywordEach kws X.env))) (EP X pins σ Q) X.xe s := by
  have names : (backToKw pos (keywordEach kws X.env)).map (·.1) = kws.map (·.arg) := by
    clear hk hks
    induction kws with
    | nil => rfl
    | cons a r ih =>
      obtain ⟨nm, a, kp⟩ := a
      show nm :: (backToKw pos (keywordEach r X.env)).map (·.1) = _
      rw [ih]; rfl
  have hall : (backToKw pos (keywordEach kws X.env)).all (·.1.isSome) = true := by
    rw [List.all_eq_true]
    intro z hz
    have : z.1 ∈ (backToKw pos (keywordEach kws X.env)).map (·.1) := List.mem_map.mpr ⟨z, hz, rfl⟩
    rw [names, hks] at this
    obtain ⟨y, _, e⟩ := List.mem_map.mp this
    rw [← e]; rfl
  have hany : (backToKw pos (keywordEach kws X.env)).any (·.1.isNone) = false := by
    rw [List.any_eq_false]
    intro z hz
    have := List.all_eq_true.mp hall z hz
    cases hz1 : z.1 with
    | none => rw [hz1] at this; cases this
    | some y => simp
  have hks2 : (backToKw pos (keywordEach kws X.env)).filterMap (·.1) = ks0 := by
    have : (backToKw pos (keywordEach kws X.env)).filterMap (·.1) = ((backToKw pos (keywordEach kws X.env)).map (·.1)).filterMap id := by rw [List.filterMap_map]; rfl
    rw [this, names, hks, List.filterMap_map]
    exact List.filterMap_some
  have fin : ∀ ps qs S2 F2 ρ2 H2 vs zs us ws s2, Inv X pins σ H2 s2 → Vals vs us → Vals zs ws → SR G F2 ρ2 H2 S2 → Ext F ρ H F2 ρ2 H2 → rvs G F2 ρ2 ps vs → rvs G F2 ρ2 qs zs → Post G F2 ρ2 H2 (g ps qs S2) (rv G) Q (fun cls d H' => W cls d σ H') →
      X.K.In s2.heap ∧ wpAny (model X.prog X.w) X.A (PySem.call fv (first ++ us) (((backToKw pos (keywordEach kws X.env)).filterMap (·.1)).zip ws)) (EP X pins σ Q) X.xe s2 := fun ps qs S2 F2 ρ2 H2 vs zs us ws s2 I2 r1 r2 hS2 x2 q1 q2 hP2 => by
    refine ⟨I2.kIn, ?_⟩
    rw [hks2]
    exact fin0 ps qs S2 F2 ρ2 H2 vs zs us ws s2 I2 r1 r2 hS2 x2 q1 q2 hP2
  cases es with
  | nil =>
    have hl0 : ∃ S1, True := ⟨S, trivial⟩
    refine PySem.W.callWith_KW0 (h₀ := X.base) I.ok.mod.kin hkp hall ?_ (by show ((backTo pos (starEach [] X.env)).any (·.1) || (backToKw pos (keywordEach kws X.env)).any (·.1.isNone)) = false; rw [hany]; rfl)
    have go := stepL hl I hS hE hP pos (P := fun us s1 => us = [] → wpAny (model X.prog X.w) X.A (evalAll ((backToKw pos (keywordEach kws X.env)).map (·.2)))
      (fun ks s₂ => X.K.In s₂.heap ∧ wpAny (model X.prog X.w) X.A (PySem.call fv (first ++ []) (((backToKw pos (keywordEach kws X.env)).filterMap (·.1)).zip ks)) (EP X pins σ Q) X.xe s₂) X.xe s1)
      fun ps S1 F1 ρ1 H1 vs us s1 I1 r1 hS1 x1 hE1 q1 hP1 hus => by
        subst hus
        exact stepK hk I1 hS1 hE1 hP1 pos fun qs S2 F2 ρ2 H2 zs ws s2 I2 r2 hS2 x2 hE2 q2 hP2 => fin ps qs S2 F2 ρ2 H2 vs zs [] ws s2 I2 r1 r2 hS2 (x1.trans x2) (rvs_ext x2 _ _ q1) q2 hP2
    have go2 : wpAny (model X.prog X.w) X.A (pure [] : Sem (List Value)) (fun us s1 => us = [] → wpAny (model X.prog X.w) X.A (evalAll ((backToKw pos (keywordEach kws X.env)).map (·.2)))
      (fun ks s₂ => X.K.In s₂.heap ∧ wpAny (model X.prog X.w) X.A (PySem.call fv (first ++ []) (((backToKw pos (keywordEach kws X.env)).filterMap (·.1)).zip ks)) (EP X pins σ Q) X.xe s₂) X.xe s1) X.xe s := go
    exact fun Γ p hΓ => go2 Γ p hΓ rfl Γ p hΓ
  | cons a r =>
    have hst' := Bool.and_eq_true_iff.mp (List.all_cons ▸ hst)
    refine PySem.W.callWith_KW (h₀ := X.base) I.ok.mod.kin hkp hall (stepL hl I hS hE hP pos fun ps S1 F1 ρ1 H1 vs us s1 I1 r1 hS1 x1 hE1 q1 hP1 => ?_) (by rw [star_any_false hst, hany]; rfl) (star_no hst'.1)
    exact stepK hk I1 hS1 hE1 hP1 pos fun qs S2 F2 ρ2 H2 zs ws s2 I2 r2 hS2 x2 hE2 q2 hP2 => fin ps qs S2 F2 ρ2 H2 vs zs us ws s2 I2 r1 r2 hS2 (x1.trans x2) (rvs_ext x2 _ _ q1) q2 hP2

theorem guards_makeK {A : Around} {C : Addr} {us : List Value} {kw : List (Str × Value)} : (A.under (.builtin "type.__call__" ⟨.ref C :: us, kw⟩)).guards = A.guards := by
  first | rfl | simp [Around.under, Code.guards, Code.isGuard, pushGuards, guardIds]
/-- a new instance, its __init__ called with keywords -/
theorem run_makeGK {sp : Sp} {E : XK} {Q : VK} {us : List Value} {kw : List (Str × Value)} (M : Mk X.K C f) (Fn : FnG X.prog X.w X.K X.mg X.base k f sp) (hr : Room (k + 1) X.A) (hg : X.A.guards = some []) (I : Inv X pins σ H s)
    (h : ∀ x dx, H x = Option.none → H dx = Option.none → dx ≠ x → ∃ (bs : List Value) (vs : List V), ArrK X.K f (.ref x :: us) kw bs ∧ Vals vs bs ∧ sp vs (upd (upd H dx (.own x)) x (.ins C dx [])) (fun v H2 => v = .non ∧ Q (.ref x) H2) E) :
    wpAny (model X.prog X.w) X.A (PySem.call (.ref C) us kw) (EP X pins σ Q) X.xe s := by
  have n1 : H (s.heap.objs.size + 1) = none := I.hok.fresh (Nat.le_succ _)
  have n2 : H s.heap.objs.size = none := I.hok.fresh (Nat.le_refl _)
  have I2 := Inv.made (C := C) I
  have e2 := I2.env0.make C us kw
  obtain ⟨bs, vs, ar, rr, hh⟩ := h _ _ n1 n2 (Nat.ne_of_lt (Nat.lt_succ_self _))
  refine wpAny_call (make_map (f := f) I.kIn M.makes M.init (beq_iff_eq.mp M.fn) (codeAny_mono (Fn _ X.stack _ _ (.ref (s.heap.objs.size + 1) :: us) kw bs vs _ E (hr.make C us kw) (by rw [guards_makeK]; exact hg) e2 ar rr hh) fun r s' hq' => ?_))
  have z := back_ev (E' := X.xe) I2 hq'
  cases r with
  | error e => exact z
  | ok fl =>
    cases fl with
    | ret u =>
      obtain ⟨v, H', I3, rv', ev, q3⟩ := z
      subst ev
      exact ⟨rv', .ref (s.heap.objs.size + 1), H', I3, rfl, q3⟩
    | next => exact z
    | brk => exact z
    | cont => exact z
/-- a new instance, its __init__ run: the parameters' values stand for themselves -/
theorem run_mkV {T : Tb} {mk : Calls} {c : Nat} {kl : Cls} {Q : VK} {W : XK} {us : List Value} {kw : List (Str × Value)} {as : List PV} (hK : X.K = G.K) (hT : T.cls[c]? = some kl) (M : Mk G.K (G.clsA c) f)
    (Fn : FnG X.prog X.w X.K X.mg X.base k f (spC G (mk kl.init))) (hr : Room (k + 1) X.A) (hgd : X.A.guards = some []) (I : Inv X pins σ H s) (hS : SR G F ρ H S)
    (hv : ∀ (x : Addr) (ρ' : List Addr) (H' : Hp), Ext F ρ H F ρ' H' → rv G F ρ' (.cell S.length) (.ref x) → ∃ (bs : List Value) (vs : List V), ArrK G.K f (.ref x :: us) kw bs ∧ Vals vs bs ∧ rvs G F ρ' as vs)
    (hP : Post G F ρ H (makeV T mk c as S) (rv G) Q W) : wpAny (model X.prog X.w) X.A (PySem.call (.ref (G.clsA c)) us kw) (EP X pins σ Q) X.xe s := by
  refine run_makeGK (E := W) (by rw [hK]; exact M) Fn hr hgd I fun x dx hx hdx hne => ?_
  obtain ⟨s1, x1⟩ := hS.layX hdx (.own x)
  have hx1 : (upd H dx (.own x)) x = none := by rw [upd_ne (Ne.symm hne)]; exact hx
  have hc : rc G F (ρ ++ [x]) (.ins c []) (some (.ins (G.clsA c) dx [])) := ⟨dx, [], by rw [zip_nil], Nat.zero_le _, by unfold rvs; rfl⟩
  obtain ⟨s2, x2⟩ := s1.cellX hx1 hc
  have hl : S.length = ρ.length := hS.len.symm
  have gx : (ρ ++ [x])[S.length]? = some x := by rw [hl]; simp
  obtain ⟨bs, vs, ar, rr0, rq⟩ := hv x (ρ ++ [x]) _ (x1.trans x2) (by unfold rv; exact ⟨x, rfl, gx⟩)
  refine ⟨bs, vs, by rw [hK]; exact ar, rr0, F, ρ ++ [x], S ++ [.ins c []], as, s2, rq, ?_⟩
  · unfold makeV at hP
    rw [hT] at hP
    dsimp only at hP
    cases hm : mk kl.init as (S ++ [.ins c []]) with
    | bad => rw [hm] at hP; exact hP.elim
    | exc z S2 => exact fun _ _ _ _ _ _ _ q => q.elim
    | ok v S2 =>
      rw [hm] at hP
      simp only [bind_ok] at hP
      intro F3 ρ3 H3 b x3 s3 q3
      have xx := (x1.trans x2).trans x3
      cases v with
      | non =>
        unfold rv at q3
        refine ⟨q3, ?_⟩
        have hi : ρ3[S.length]? = some x := pre_get x3.r gx
        obtain ⟨c3, u3, h3, hu⟩ := s3.there hi
        rw [h3] at hP
        cases c3 with
        | ins c' fs =>
          dsimp only at hP
          by_cases hf : kl.frozen = true
          · rw [if_pos hf] at hP
            by_cases hc2 : ((c' == c) && (S2.length == S.length + 1) && lows S.length fs && (S2.take S.length).all (lowC S.length)) = true
            · rw [if_pos hc2] at hP
              simp only [Bool.and_eq_true, beq_iff_eq] at hc2
              obtain ⟨⟨⟨e1, e2⟩, e3⟩, e4⟩ := hc2
              subst e1
              obtain ⟨dx3, vs3, ho, hlen, rr⟩ := s3.at_ _ _ _ h3 hi
              obtain ⟨s4, x4⟩ := s3.freezeX hi h3 (fun z => by cases z) ho
              have s5 := s4.cut S.length (by rw [take_set_ge]; exact e4)
              rw [take_set_ge] at s5
              have pre : ρ <+: ρ3 := xx.r
              have tk : ρ3.take S.length = ρ := take_pre pre hl
              rw [tk] at s5
              have x5 := (xx.trans x4).back (List.prefix_refl _) pre
              refine hP _ ρ H3 (.ref x) x5 s5 ?_
              unfold rv
              refine ⟨x, dx3, vs3, rfl, upd_same, hlen, ?_⟩
              have := rvs_low (n := S.length) _ _ e3 rr
              rw [tk] at this
              exact rvs_mono x4.s (List.prefix_refl _) _ _ this
            · rw [if_neg hc2] at hP; exact hP.elim
          · rw [if_neg hf] at hP
            exact hP F3 ρ3 H3 (.ref x) xx s3 (by unfold rv; exact ⟨x, rfl, hi⟩)
        | _ => exact (show False from hP).elim
      | _ => exact (show False from hP).elim
/-- C(.., k = v) -/
theorem se_makeK {x : Str} {p : Pos} {es : List Expr} {kws : List Keyword} {l m : Env → Store → R (List PV)} {j c : Nat} {ki : Kwi} {kl : Cls} (hK : X.K = G.K) (hj : G.T.kws[j]? = some ki) (ko : KwOk G fa ki) (hT : G.T.cls[c]? = some kl) (M : Mk G.K (G.clsA c) (fa kl.init))
    (Fn : ∀ f, FnG X.prog X.w X.K X.mg X.base k (fa f) (spC G (call f))) (hr : Room (k + 1) X.A) (hgd : X.A.guards = some [])
    (hg : Gl X x) (hm : X.mg x = some (.ref (G.clsA c))) (hd : (x == ("__debug__" : Str)) = false) (hst : es.all nostar = true) (hl : PA X es (tL G W l)) (hk : PK X kws (tL G W m)) (hks : kws.map (·.arg) = ki.ks.map some) :
    PE X (.Call (.Name x p) es kws pos) (tE G W fun e S => (l e S).bind fun ps S => (m e S).bind fun qs S => makeK G.T call j c ps qs S) := by
  refine ⟨fun pins s σ H Q I ⟨F, ρ, e, S, hS, hE, hP⟩ => ?_⟩
  refine wpAny_Call_Name_kw (ld_glob I hg hm ?_ hd)
  obtain ⟨dv, dV, rd, rD, arr⟩ := ko.to
  refine kw_run (first := []) (g := fun ps qs S => makeK G.T call j c ps qs S) (by rw [hK]; exact M.kp) hst hl hk hks I hS hE hP fun ps qs S2 F2 ρ2 H2 vs zs us ws s2 I2 r1 r2 hS2 x2 q1 q2 hP2 => ?_
  unfold makeK at hP2
  rw [hj, hT] at hP2
  dsimp only at hP2
  by_cases hn : ((ki.n == ps.length + 1) && (ki.ks.length == qs.length) && (kl.init == ki.f)) = true
  · rw [if_pos hn] at hP2
    simp only [Bool.and_eq_true, beq_iff_eq] at hn
    refine run_mkV hK hT M (Fn kl.init) hr hgd I2 hS2 (fun x ρ' H' xx hx => ?_) hP2
    have l1 : (Value.ref x :: us).length = ki.n := by rw [hn.1.1, List.length_cons, ← r1.length, rvs_len q1]
    have l2 : ws.length = ki.ks.length := by rw [hn.1.2, ← r2.length, rvs_len q2]
    have ar := arr (.ref x :: us) ws l1 l2
    rw [← hn.2] at ar
    have r0 : Vals (V.ref x :: vs) (Value.ref x :: us) := .cons rfl r1
    refine ⟨_, permL ki.perm (V.ref x :: vs ++ zs ++ dv), ar, vals_perm ((r0.append r2).append rD) _, ?_⟩
    rw [permV_L]
    have rdd : rvs G F2 ρ' ki.d dv := rvs_mono (fun a o z => by cases z) List.nil_prefix _ _ rd
    refine rvs_perm (ps := PV.cell S2.length :: (ps ++ qs ++ ki.d)) ?_ _
    have z := rvs_app (rvs_app (rvs_ext xx _ _ q1) (rvs_ext xx _ _ q2)) rdd
    show rvs G F2 ρ' (PV.cell S2.length :: (ps ++ qs ++ ki.d)) (V.ref x :: vs ++ zs ++ dv)
    rw [List.cons_append, List.cons_append]
    unfold rvs
    exact ⟨_, _, rfl, hx, z⟩
  · rw [if_neg hn] at hP2; exact hP2.elim
end
end Ev
set_option Elab.async false
set_option linter.all false
set_option maxRecDepth 100000
set_option maxHeartbeats 1000000
/-! E20: does a term of the evaluator's language say what the text says: the test. -/
namespace Ev
open PySem L2
open PyProof.Rows hiding St

/-- the text's own names -/
structure Stc where
  T : Tb
  nms : List Str
  gf : List (Str × Nat)
  gc : List (Str × Nat)
  gg : List (Str × Nat)
  gd : List (Str × Nat) := []
  bl : List Str
def Stc.nm (A : Stc) (n : Nat) : Str := A.nms.getD n Str.empty
/-- where an expression stands -/
structure Gm where
  N : List Str
  sc : Scope
  blk : Bool
  cs : Scope
def Gm.inn (Γ : Gm) (scope : Scope) : Gm := { N := Γ.N, sc := relS scope Γ.sc, blk := true, cs := scope }
def visB (sc : Scope) (x : Str) : Bool := match sc.names.lookup x with
  | some .local => true
  | some .cell => true
  | some .free => true
  | _ => false
def locB (sc : Scope) (x : Str) : Bool := match sc.names.lookup x with
  | some .local => true
  | _ => false
def celB (sc : Scope) (x : Str) : Bool := match sc.names.lookup x with
  | some .cell => true
  | _ => false
def glB (sc : Scope) (x : Str) : Bool := match sc.names.lookup x with
  | some .globalImplicit => true
  | _ => false
def dbgB (x : Str) : Bool := (x == ("__debug__" : Str))
def nmB (x : Str) : Bool := (x == ("__name__" : Str))
def isN (Γ : Gm) (i : Nat) (x : Str) : Bool := decide (Γ.N[i]? = some x)
/-- a name of the module, or of the built-ins -/
def modB (Γ : Gm) (x : Str) : Bool := glB Γ.sc x && !dbgB x
def bltB (A : Stc) (Γ : Gm) (x y : Str) : Bool := decide (x = y) && modB Γ x && A.bl.contains x && !nmB x
def opEq : BOp → Operator → Bool
  | .add, .Add => true
  | .sub, .Sub => true
  | .mul, .Mult => true
  | .fdiv, .FloorDiv => true
  | .mod, .Mod => true
  | .pow, .Pow => true
  | .shl, .LShift => true
  | .bor, .BitOr => true
  | .band, .BitAnd => true
  | _, _ => false
def cpEq : COp → CmpOp → Bool
  | .eq, .Eq => true
  | .ne, .NotEq => true
  | .lt, .Lt => true
  | .le, .LtE => true
  | .gt, .Gt => true
  | .ge, .GtE => true
  | .isin, .In => true
  | .notin, .NotIn => true
  | .is_, .Is => true
  | .isnot, .IsNot => true
  | _, _ => false
/-- a constant of the text -/
def cstB : PV → Expr → Bool
  | .int i, .Constant (.int n) _ _ => decide (i = n)
  | .str x, .Constant (.str y) _ _ => decide (sT x = y) && okS x
  | .bl b, .Constant (.bool c) _ _ => b == c
  | .non, .Constant .none _ _ => true
  | _, _ => false
def bltN : Blt → Option (Str × Bool)
  | .len => some ("len", true)
  | .abs => some ("abs", true)
  | .max => some ("max", true)
  | .divmod => some ("divmod", true)
  | .all => some ("all", true)
  | .int => some ("int", false)
  | .tuple => some ("tuple", false)
  | .list => some ("list", false)
  | .sorted => some ("sorted", true)
  | .repr => some ("repr", true)
  | .str => some ("str", false)
  | .listc => some ("list", false)
  | .min => some ("min", true)
  | .sum => some ("sum", true)
  | .any => some ("any", true)
  | _ => none
def mthN : Mth → Option Str
  | .join => some "join"
  | .split => some "split"
  | .count => some "count"
  | .startswith => some "startswith"
  | .append => some "append"
  | .extend => some "extend"
  | .pop => some "pop"
  | _ => none
structure Ch where
  e : Gm → Expr → Bool := fun _ _ => false
  b : Gm → Expr → Bool := fun _ _ => false
  l : Gm → List Expr → Bool := fun _ _ => false
  w : Gm → List Expr → Bool := fun _ _ => false
  tp : Gm → List Expr → Bool := fun _ _ => false
  t : Gm → Expr → Bool := fun _ _ => false
  ft : Gm → Expr → Bool := fun _ _ => false
  ts : Gm → List Expr → Bool := fun _ _ => false
  tw : List Nat → Gm → Expr → Bool := fun _ _ _ => false
  tsw : List Nat → Gm → List Expr → Bool := fun _ _ _ => false
  i : Gm → Expr → Expr → Bool := fun _ _ _ => false
  lc : Gm → Expr → Bool := fun _ _ => false
  o : Gm → Stmt → Bool := fun _ _ => false
  s : Gm → List Stmt → Bool := fun _ _ => false
  kw : Gm → List Keyword → Bool := fun _ _ => false
  j : Gm → List Expr → Bool := fun _ _ => false
def chE (f : Gm → Expr → Bool) : Ch := { e := f, b := f, i := fun Γ _ E => f Γ E }
def chB (f g : Gm → Expr → Bool) : Ch := { e := f, b := g, i := fun Γ _ E => f Γ E }
def chO (f : Gm → Stmt → Bool) : Ch := { o := f, s := fun Γ b => match b with
  | [st] => f Γ st
  | _ => false }
def clsB (A : Stc) (Γ : Gm) (c : Nat) : Expr → Bool
  | .Name x _ => modB Γ x && A.gc.contains (x, c)
  | _ => false
/-- the class that isinstance is asked about -/
def tyB (A : Stc) (Γ : Gm) (t : Ty) (E : Expr) : Bool := match t with
  | .own c => clsB A Γ c E && (A.T.cls[c]?).isSome
  | t => match E with
    | .Name x _ => bltB A Γ x (Str.ofString (tyN t))
    | _ => false
def isTrueC : C → Bool
  | .k (.bl true) => true
  | _ => false
/-- two or three plain names that are stored at once -/
def parB (Γ : Gm) (is : List Nat) (xs vs : List Expr) : Bool := match is, xs, vs with
  | [i, j], [.Name x px, .Name y py], [a, b] => isN Γ i x && isN Γ j y && (i != j) && locB Γ.sc x && locB Γ.sc y && decide (x ≠ y) && (px.line == py.line) && nostar a && nostar b && !(foldedForSure 8 a && foldedForSure 8 b) && !(constantsAlone 8 a && constantsAlone 8 b) && !Γ.blk
  | _, _, _ => false
def parB3 (Γ : Gm) (is : List Nat) (xs vs : List Expr) : Bool := match is, xs, vs with
  | [i, j, m], [.Name x px, .Name y py, .Name z pz], [a, b, c] => (isN Γ i x && isN Γ j y && isN Γ m z) && ((i != j) && (i != m) && (j != m)) && (locB Γ.sc x && locB Γ.sc y && locB Γ.sc z) && (decide (x ≠ y) && decide (x ≠ z) && decide (y ≠ z)) && ((px.line == py.line) && (px.line == pz.line)) && (nostar a && nostar b && nostar c) && !(foldedForSure 8 a && foldedForSure 8 b && foldedForSure 8 c) && !(constantsAlone 8 a && constantsAlone 8 b && constantsAlone 8 c) && !Γ.blk
  | _, _, _ => false
def slots2 : C → List Nat
  | .tup (.cons (.v i) (.cons (.v j) .nil)) => [i, j]
  | _ => []
def slots3 : C → List Nat
  | .tup (.cons (.v i) (.cons (.v j) (.cons (.v m) .nil))) => [i, j, m]
  | _ => []
/-- a target that no walrus-like store reaches early: no local name -/
def celT (Γ : Gm) : Expr → Bool
  | .Name y _ => celB Γ.sc y
  | _ => true
/-- the names of a tuple of targets that are stored at once -/
def swapNames (sc : Scope) (ts : List Expr) : List Str := ts.filterMap fun
    | .Name id pos => if sc.names.lookup id == some .local && pos.line == (ts.head?.map (·.pos.line)).getD 0 then some id else none
    | _ => none
def noSwapB (sc : Scope) (T1 V1 : Expr) : Bool := match T1, V1 with
  | .Tuple ts _ _, .Tuple vs _ _ => !(ts.length == 2 || ts.length == 3) || vs.length != ts.length || (swapNames sc ts).length != ts.length || vs.all (foldedForSure 8)
  | T1, V1 => noTup T1 || noTup V1
def lnB (a b : Pos) : Bool := a.endLine == b.line
def chk (A : Stc) : C → Ch
  | .v i =>
    let f := fun Γ E => match E with
      | .Name x _ => isN Γ i x && visB Γ.sc x && !dbgB x && !(x == ("__classdict__" : Str))
      | _ => false
    { e := f, b := f, i := fun Γ _ E => f Γ E
      t := fun Γ E => match E with
        | .Name x _ => isN Γ i x && (locB Γ.sc x || (celB Γ.sc x && !Γ.blk))
        | _ => false
      tw := fun own Γ E => match E with
        | .Name x _ => isN Γ i x && (locB Γ.sc x || (celB Γ.sc x && celB Γ.cs x)) && own.contains i
        | _ => false }
  | .k p => chB (fun Γ E => cstB p E) fun _ _ => false
  | .g n => chE fun Γ E => match E with
    | .Name x _ => modB Γ x && A.gg.contains (x, n)
    | _ => false
  | .bin o a b =>
    let x := chk A a
    let y := chk A b
    chE fun Γ E => match E with
      | .BinOp l op r _ => opEq o op && x.e Γ l && y.e Γ r
      | _ => false
  | .neg a =>
    let x := chk A a
    chB (fun Γ E => match E with
      | .UnaryOp .USub l _ => x.e Γ l
      | _ => false) fun _ _ => false
  | .cmp o a b =>
    let x := chk A a
    let y := chk A b
    chE fun Γ E => match E with
      | .Compare l [op] [r] _ => cpEq o op && noSet r && x.e Γ l && y.e Γ r
      | _ => false
  | .chain o o' a b c =>
    let x := chk A a
    let y := chk A b
    let z := chk A c
    chE fun Γ E => match E with
      | .Compare l [op, op'] [r, q] _ => cpEq o op && cpEq o' op' && noSet q && x.e Γ l && y.e Γ r && z.e Γ q
      | _ => false
  | .and a b =>
    let x := chk A a
    let y := chk A b
    chB (fun Γ E => match E with
      | .BoolOp .And [l, r] _ => x.e Γ l && y.e Γ r
      | .BoolOp .And (l :: r :: q :: u) p => x.e Γ l && y.e Γ (.BoolOp .And (r :: q :: u) p)
      | _ => false) fun Γ E => match E with
      | .BoolOp .And [l, r] _ => x.b Γ l && y.b Γ r
      | .BoolOp .And (l :: r :: q :: u) p => x.b Γ l && y.b Γ (.BoolOp .And (r :: q :: u) p)
      | _ => false
  | .or a b =>
    let x := chk A a
    let y := chk A b
    chB (fun Γ E => match E with
      | .BoolOp .Or [l, r] _ => x.e Γ l && y.e Γ r
      | .BoolOp .Or (l :: r :: q :: u) p => x.e Γ l && y.e Γ (.BoolOp .Or (r :: q :: u) p)
      | _ => false) fun Γ E => match E with
      | .BoolOp .Or [l, r] _ => x.b Γ l && y.b Γ r
      | .BoolOp .Or (l :: r :: q :: u) p => x.b Γ l && y.b Γ (.BoolOp .Or (r :: q :: u) p)
      | _ => false
  | .not a =>
    let x := chk A a
    chB (fun Γ E => match E with
      | .UnaryOp .Not l _ => x.e Γ l
      | _ => false) fun Γ E => match E with
      | .UnaryOp .Not l _ => x.b Γ l
      | _ => false
  | .ite t a b =>
    let x := chk A a
    let y := chk A b
    let z := chk A t
    chB (fun Γ E => match E with
      | .IfExp c l r _ => z.b Γ c && x.e Γ l && y.e Γ r
      | _ => false) fun Γ E => match E with
      | .IfExp c l r _ => z.b Γ c && x.b Γ l && y.b Γ r
      | _ => false
  | .nil => { j := fun _ es => es.isEmpty, kw := fun _ ks => ks.isEmpty, l := fun _ es => es.isEmpty, w := fun _ es => es.isEmpty, ts := fun _ es => es.isEmpty, tsw := fun _ _ es => es.isEmpty }
  | .cons a l =>
    let x := chk A a
    let y := chk A l
    let f := fun Γ es => match es with
      | E :: r => nostar E && x.e Γ E && y.l Γ r
      | _ => false
    { l := f, w := f
      j := fun Γ es => match es with
        | E :: r => x.e Γ E && y.j Γ r
        | _ => false
      kw := fun Γ ks => match ks with
        | ⟨_, E, _⟩ :: r => x.e Γ E && y.kw Γ r
        | _ => false
      ts := fun Γ es => match es with
        | E :: r => nostar E && x.t Γ E && y.ts Γ r
        | _ => false
      tsw := fun own Γ es => match es with
        | E :: r => nostar E && x.tw own Γ E && y.tsw own Γ r
        | _ => false }
  | .star a l =>
    let x := chk A a
    let y := chk A l
    { l := fun Γ es => match es with
        | .Starred E _ :: r => x.e Γ E && y.l Γ r
        | _ => false
      w := fun Γ es => match es with
        | [.Starred E _] => x.e Γ E && isNil l
        | _ => false }
  | .tup l =>
    let x := chk A l
    let f := fun Γ E => match E with
      | .Tuple es _ _ => x.l Γ es
      | _ => false
    { e := f, b := f, i := fun Γ _ E => f Γ E, tp := x.l
      t := fun Γ E => match E with
        | .Tuple es _ _ => x.ts Γ es && es.all nostar
        | _ => false
      tw := fun own Γ E => match E with
        | .Tuple es _ _ => x.tsw own Γ es && es.all nostar
        | _ => false }
  | .lst l =>
    let x := chk A l
    chE fun Γ E => match E with
      | .List es _ => x.l Γ es
      | _ => false
  | .lstc l =>
    let x := chk A l
    { e := fun Γ E => match E with
      | .List es _ => x.l Γ es
      | _ => false }
  | .ix a b =>
    let x := chk A a
    let y := chk A b
    let f := fun Γ E => match E with
      | .Subscript l r _ => noSlice r && x.e Γ l && y.e Γ r
      | _ => false
    { e := f, b := f, i := fun Γ _ E => f Γ E, t := f }
  | .sl a lo hi =>
    let x := chk A a
    let y := chk A lo
    let z := chk A hi
    chE fun Γ E => match E with
      | .Subscript l (.Slice u v none _) _ => x.e Γ l && (match u with
        | none => isNil lo
        | some u => !isNil lo && y.e Γ u) && (match v with
        | none => isNil hi
        | some v => !isNil hi && z.e Γ v)
      | _ => false
  | .rev a =>
    let x := chk A a
    chE fun Γ E => match E with
      | .Subscript l (.Slice none none (some (.UnaryOp .USub (.Constant (.int n) _ _) _)) _) _ => decide (n = 1) && x.e Γ l
      | _ => false
  | .sset a =>
    let x := chk A a
    chE fun Γ E => match E with
      | .Call (.Name m _) [.Call (.Name m2 _) [q] [] _] [] _ => bltB A Γ m "sorted" && bltB A Γ m2 "set" && nostar q && x.e Γ q
      | _ => false
  | .lrange t l =>
    let x := chk A l
    chE fun Γ E => match E with
      | .Call (.Name m _) [.Call (.Name m2 _) (a :: r) [] _] [] _ => bltB A Γ m (Str.ofString (if t then "tuple" else "list")) && bltB A Γ m2 "range" && (a :: r).all nostar && decide ((a :: r).length ≤ 2) && x.l Γ (a :: r)
      | _ => false
  | .makeK j c l kl =>
    let x := chk A l
    let y := chk A kl
    { e := fun Γ E => match E with
      | .Call (.Name m _) es kws _ => (match A.T.kws[j]? with
        | some ki => modB Γ m && A.gc.contains (m, c) && es.all nostar && x.l Γ es && y.kw Γ kws && decide (kws.map (·.arg) = ki.ks.map some) && (A.T.cls[c]?).isSome
        | none => false)
      | _ => false }
  | .attr a n =>
    let x := chk A a
    let f := fun Γ E => match E with
      | .Attribute l m _ => decide (m = A.nm n) && noCall0 l && x.e Γ l
      | _ => false
    { e := f, b := f, i := fun Γ _ E => f Γ E, ft := f }
  | .call f l perm =>
    let x := chk A l
    chE fun Γ E => match E with
      | .Call (.Name m _) es [] _ => perm.isEmpty && modB Γ m && A.gf.contains (m, f) && x.w Γ es
      | _ => false
  | .make c l perm =>
    let x := chk A l
    { e := fun Γ E => match E with
      | .Call (.Name m _) es [] _ => perm.isEmpty && modB Γ m && A.gc.contains (m, c) && x.w Γ es && (A.T.cls[c]?).isSome
      | _ => false }
  | .meth a n l perm =>
    let x := chk A a
    let y := chk A l
    chE fun Γ E => match E with
      | .Call (.Attribute o m ap) es [] p => perm.isEmpty && decide (m = A.nm n) && noCall0 o && es.all nostar && decide (es.length < 30) && lnB ap p && x.e Γ o && y.w Γ es
      | _ => false
  | .cmeth c n l perm =>
    let y := chk A l
    chE fun Γ E => match E with
      | .Call (.Attribute o m ap) (a :: r) [] p => perm.isEmpty && decide (m = A.nm n) && clsB A Γ c o && (a :: r).all nostar && decide ((a :: r).length < 30) && lnB ap p && y.l Γ (a :: r) && ((A.T.cls[c]?).bind fun k => k.cms.lookup n).isSome
      | _ => false
  | .fmt a =>
    let x := chk A a
    chB (fun Γ E => match E with
      | .FormattedValue q (-1) none _ => x.e Γ q
      | _ => false) fun _ _ => false
  | .fstr l =>
    let x := chk A l
    chE fun Γ E => match E with
      | .JoinedStr (a :: b :: r) _ => x.j Γ (a :: b :: r)
      | .JoinedStr [a] _ => x.j Γ [a]
      | _ => false
  | .kd n a =>
    let x := chk A a
    chE fun Γ E => match E with
      | .Subscript (.Name m _) r _ => noSlice r && modB Γ m && A.gd.contains (m, n) && x.e Γ r
      | _ => false
  | .dcomp own it tg key val =>
    let d := chk A it
    let t := chk A tg
    let x := chk A key
    let y := chk A val
    chB (fun Γ E => match E with
      | .DictComp kx vx [⟨T1, I1, [], 0⟩] scope _ => noSet I1 && d.i Γ T1 I1 && t.tw own (Γ.inn scope) T1 && x.e (Γ.inn scope) kx && y.e (Γ.inn scope) vx && blkC Γ.N Γ.sc scope (own.map fun j => (Γ.N.getD j Str.empty, j))
      | _ => false) fun _ _ => false
  | .callK j l kl =>
    let x := chk A l
    let y := chk A kl
    chE fun Γ E => match E with
      | .Call (.Name m _) es kws _ => (match A.T.kws[j]? with
        | some ki => modB Γ m && A.gf.contains (m, ki.f) && es.all nostar && x.l Γ es && y.kw Γ kws && decide (kws.map (·.arg) = ki.ks.map some)
        | none => false)
      | _ => false
  | .methK a n j l kl =>
    let x := chk A a
    let y := chk A l
    let z := chk A kl
    chE fun Γ E => match E with
      | .Call (.Attribute o m ap) es kws p => (match A.T.kws[j]? with
        | some ki => decide (m = A.nm n) && noCall0 o && es.all nostar && decide (es.length + kws.length < 29) && lnB ap p && x.e Γ o && y.l Γ es && z.kw Γ kws && decide (kws.map (·.arg) = ki.ks.map some)
        | none => false)
      | _ => false
  | .blt (.isi [t]) (.cons a .nil) =>
    let x := chk A a
    chE fun Γ E => match E with
      | .Call (.Name m _) [q, ty] [] _ => bltB A Γ m "isinstance" && nostar q && nostar ty && x.e Γ q && tyB A Γ t ty
      | _ => false
  | .blt b l =>
    let x := chk A l
    chE fun Γ E => match E with
      | .Call (.Name m _) (a :: r) [] _ => (match bltN b with
        | some (nm, _) => bltB A Γ m nm && (a :: r).all nostar && x.l Γ (a :: r)
        | none => false)
      | _ => false
  | .mth m a (.cons b .nil) =>
    let x := chk A a
    let y := chk A b
    chE fun Γ E => match E with
      | .Call (.Attribute o nm ap) [q] [] p => (match mthN m with
        | some z => decide (nm = z)
        | none => false) && noCall0 o && nostar q && lnB ap p && x.e Γ o && y.e Γ q
      | _ => false
  | .range l =>
    let x := chk A l
    { i := fun Γ _ E => match E with
      | .Call (.Name m _) es [] _ => bltB A Γ m "range" && es.all nostar && decide (1 ≤ es.length) && decide (es.length ≤ 3) && x.l Γ es
      | _ => false }
  | .enum a =>
    let x := chk A a
    { i := fun Γ tg E => match tg, E with
      | .Tuple _ _ _, .Call (.Name m _) [q] [] _ => bltB A Γ m "enumerate" && nostar q && x.e Γ q
      | _, _ => false }
  | .zip a b =>
    let x := chk A a
    let y := chk A b
    { i := fun Γ tg E => match tg, E with
      | .Tuple _ _ _, .Call (.Name m _) [q, r] [] _ => bltB A Γ m "zip" && nostar q && nostar r && x.e Γ q && y.e Γ r
      | _, _ => false }
  | .comp own it tg cond elt =>
    let d := chk A it
    let t := chk A tg
    let c := chk A cond
    let x := chk A elt
    let f := fun Γ E => match E with
      | .ListComp E1 [⟨T1, I1, ifs, 0⟩] scope _ => noSet I1 && d.i Γ T1 I1 && t.tw own (Γ.inn scope) T1 && (match ifs with
        | [] => isTrueC cond
        | [q] => c.b (Γ.inn scope) q
        | _ => false) && x.e (Γ.inn scope) E1 && decide ((own.map fun j => Γ.N.getD j Str.empty).length = own.length) && blkC Γ.N Γ.sc scope (own.map fun j => (Γ.N.getD j Str.empty, j))
      | _ => false
    { e := f, b := f, i := fun Γ _ E => f Γ E, lc := f }
  | .comp2 own own2 it tg cond it2 tg2 cond2 elt =>
    let d := chk A it
    let t := chk A tg
    let c := chk A cond
    let d2 := chk A it2
    let t2 := chk A tg2
    let c2 := chk A cond2
    let x := chk A elt
    let f := fun Γ E => match E with
      | .ListComp E1 [⟨T1, I1, ifs, 0⟩, ⟨T2, I2, ifs2, 0⟩] scope _ => (noSet I1 && d.i Γ T1 I1 && t.tw own (Γ.inn scope) T1 && (match ifs with
        | [] => isTrueC cond
        | [q] => c.b (Γ.inn scope) q
        | _ => false)) && (noSet I2 && d2.i (Γ.inn scope) T2 I2 && t2.tw own2 (Γ.inn scope) T2 && (match ifs2 with
        | [] => isTrueC cond2
        | [q] => c2.b (Γ.inn scope) q
        | _ => false)) && x.e (Γ.inn scope) E1 && own2.all own.contains && blkC Γ.N Γ.sc scope (own.map fun j => (Γ.N.getD j Str.empty, j))
      | _ => false
    { e := f, b := f, i := fun Γ _ E => f Γ E, lc := f }
  | .freeze a =>
    let x := chk A a
    chE fun Γ E => match E with
      | .Name m p => x.e Γ (.Name m p)
      | _ => false
  | .seq a b =>
    let x := chk A a
    let y := chk A b
    { s := fun Γ st => match st with
      | u :: v :: r => x.o Γ u && y.s Γ (v :: r)
      | _ => false }
  | .pass =>
    let f := fun (_ : Gm) (st : Stmt) => match st with
      | .Pass _ => true
      | _ => false
    let g := fun (_ : Gm) (st : List Stmt) => match st with
      | [] => true
      | [.Pass _] => true
      | _ => false
    { o := f, s := g }
  | .set tg a =>
    let x := chk A a
    let t := chk A tg
    chO fun Γ st => match st with
      | .Assign [T1] V1 p => (noComp V1 && t.ft Γ T1 && x.e Γ V1) || (nostar T1 && (noComp V1 || celT Γ T1) && noSwapB Γ.sc T1 V1 && t.t Γ T1 && x.e Γ V1) ||
          (match tg, T1, V1 with
          | .v i, .Name y py, .ListComp E1 gs scope q => isN Γ i y && locB Γ.sc y && (py.line == q.line) && !(scope.names.any fun (n, k) => n == y && (k == .local || k == .cell)) && !Γ.blk && x.lc Γ (.ListComp E1 gs scope q)
          | _, .Tuple xs _ _, .Tuple vs _ _ => (parB Γ (slots2 tg) xs vs || parB3 Γ (slots3 tg) xs vs) && x.tp Γ vs
          | _, _, _ => false)
      | _ => false
  | .ret a =>
    let x := chk A a
    chO fun Γ st => match st with
      | .Return (some E) _ => x.e Γ E
      | .Return none _ => (match a with
        | .k .non => true
        | _ => false)
      | _ => false
  | .expr a =>
    let x := chk A a
    chO fun Γ st => match st with
      | .Expr E _ => noComp E && x.e Γ E
      | _ => false
  | .iff t a b =>
    let x := chk A a
    let y := chk A b
    let z := chk A t
    chO fun Γ st => match st with
      | .If E u v _ => z.b Γ E && x.s Γ u && y.s Γ v
      | _ => false
  | .for_ tg it body =>
    let d := chk A it
    let t := chk A tg
    let b := chk A body
    chO fun Γ st => match st with
      | .For T1 I1 u [] _ => noSet I1 && d.i Γ T1 I1 && t.t Γ T1 && b.s Γ u
      | _ => false
  | .while_ t body =>
    let c := chk A t
    let b := chk A body
    chO fun Γ st => match st with
      | .While E u [] _ => c.b Γ E && b.s Γ u
      | _ => false
  | .brk => chO fun _ st => match st with
      | .Break _ => true
      | _ => false
  | .cont => chO fun _ st => match st with
      | .Continue _ => true
      | _ => false
  | .raise _ =>
    let f := fun (_ : Gm) (E : Expr) => match E with
      | .BoolOp _ _ _ => false
      | _ => true
    { e := f, o := fun _ _ => true, s := fun _ _ => true }
  | _ => {}
end Ev
set_option Elab.async false
set_option linter.all false
set_option maxRecDepth 100000
set_option maxHeartbeats 1000000
/-! E21: what the test tells. -/
namespace Ev
open PySem L2
open PyProof.Rows hiding St

structure Fax (A : Stc) (G : Rt) (fa : Nat → Addr) (mg : Str → Option Value) (w : World) : Prop where
  T : G.T = A.T
  nm : ∀ n, G.nm n = A.nm n
  fn : ∀ x f, A.gf.contains (x, f) = true → mg x = some (.ref (fa f)) ∧ PySem.W.keepIn G.K (.ref (fa f)) = true
  cls : ∀ x c, A.gc.contains (x, c) = true → mg x = some (.ref (G.clsA c))
  gl : ∀ x n, A.gg.contains (x, n) = true → ∃ q v u, A.T.globs[n]? = some q ∧ mg x = some u ∧ RelV v u ∧ rv G (fun _ => none) [] q v
  bl : ∀ x, A.bl.contains x = true → mg x = none
  is : ∀ c kl, G.T.cls[c]? = some kl → ClsIs G c
  kd : ∀ x n, A.gd.contains (x, n) = true → ∃ q u, A.T.globs[n]? = some q ∧ mg x = some u ∧ KdOk G w u q
  kw : ∀ (j : Nat) (ki : Kwi), A.T.kws[j]? = some ki → KwOk G fa ki
  cm : ∀ c kl n f, G.T.cls[c]? = some kl → kl.cms.lookup n = some f → CmOk G fa c n f
structure Okx (A : Stc) (G : Rt) (fa : Nat → Addr) (call : Calls) (k : Nat) (Γ : Gm) (X : Cx) : Prop where
  ops : Ops G X k fa call
  fax : Fax A G fa X.mg X.w
  N : X.N = Γ.N
  sc : X.env.scope = Γ.sc
  nd : X.N.Nodup
  calm : X.calm = true
  kind : Γ.blk = false → Γ.sc.kind = .function
  fnx : Γ.blk = false → ∀ x, X.fn x = true
  fnb : ∀ x, Γ.cs.names.lookup x = some .cell → X.fn x = true
  own : PassesOwn (model X.prog X.w) X.A X.env X.xe
theorem vis_of {sc : Scope} {x : Str} (h : visB sc x = true) : Vis sc x := by
  unfold visB at h
  split at h <;> first | exact .inl (by assumption) | exact .inr (.inl (by assumption)) | exact .inr (.inr (by assumption)) | cases h
theorem loc_of {sc : Scope} {x : Str} (h : locB sc x = true) : sc.names.lookup x = some .local := by
  unfold locB at h
  split at h <;> first | assumption | cases h
theorem cel_of {sc : Scope} {x : Str} (h : celB sc x = true) : sc.names.lookup x = some .cell := by
  unfold celB at h
  split at h <;> first | assumption | cases h
theorem gl_of {sc : Scope} {x : Str} (h : glB sc x = true) : sc.names.lookup x = some .globalImplicit := by
  unfold glB at h
  split at h <;> first | assumption | cases h
theorem not_of {b : Bool} (h : (!b) = true) : b = false := by cases b <;> first | rfl | cases h
theorem and2 {a b : Bool} (h : (a && b) = true) : a = true ∧ b = true := Bool.and_eq_true_iff.mp h
theorem op_of {o : BOp} {op : Operator} (h : opEq o op = true) : op = opB o := by
  cases o <;> cases op <;> first | rfl | cases h
theorem cp_of {o : COp} {op : CmpOp} (h : cpEq o op = true) : op = opC o := by
  cases o <;> cases op <;> first | rfl | cases h
def plainT : Expr → Bool
  | .BoolOp _ _ _ => false
  | .UnaryOp _ _ _ => false
  | .Compare _ _ _ _ => false
  | .IfExp _ _ _ _ => false
  | .NamedExpr _ _ _ => false
  | .Constant _ _ _ => false
  | _ => true
theorem tru_plain {E : Expr} {env : PySem.Env} (h : plainT E = true) (whole : Sem Value) : isTrue E env whole = (do let v ← whole; standAt E.pos; holding [v] (truthy v)) := by
  cases E <;> first | rfl | cases h
section
variable {A : Stc} {G : Rt} {fa : Nat → Addr} {call : Calls} {k : Nat} {Γ : Gm} {X : Cx} {W : WX}
theorem Okx.gl (O : Okx A G fa call k Γ X) {x : Str} (h : modB Γ x = true) : Gl X x ∧ (x == ("__debug__" : Str)) = false := by
  obtain ⟨h1, h2⟩ := and2 h
  refine ⟨?_, not_of h2⟩
  show X.env.scope.names.lookup x = some .globalImplicit
  rw [O.sc]
  exact gl_of h1
theorem Okx.blt (O : Okx A G fa call k Γ X) {x y : Str} (h : bltB A Γ x y = true) : x = y ∧ Gl X x ∧ X.mg x = none ∧ x ≠ "__name__" ∧ (x == ("__debug__" : Str)) = false := by
  unfold bltB at h
  obtain ⟨h, h4⟩ := and2 h
  obtain ⟨h, h3⟩ := and2 h
  obtain ⟨h1, h2⟩ := and2 h
  obtain ⟨g1, g2⟩ := O.gl h2
  refine ⟨of_decide_eq_true h1, g1, O.fax.bl x h3, fun e => ?_, g2⟩
  have := not_of h4
  unfold nmB at this
  rw [e] at this
  simp at this
theorem Okx.nN (O : Okx A G fa call k Γ X) {i : Nat} {x : Str} (h : isN Γ i x = true) : X.N[i]? = some x := by
  rw [O.N]; exact of_decide_eq_true h
/-- within a comprehension -/
theorem Okx.inn (O : Okx A G fa call k Γ X) (scope : Scope) (s : Shared) (H : Hp) (C : Addr) (cl : List (Str × Addr)) (fp : List Addr) : Okx A G fa call k (Γ.inn scope) (X.blk s H scope (compEnvC scope cl C X.env) fp) where
  ops := ⟨O.ops.K, O.ops.nm, O.ops.cls, O.ops.eqs, O.ops.fn, O.ops.room, O.ops.gd⟩
  fax := O.fax
  N := O.N
  sc := by
    show relabel scope X.env = relS scope Γ.sc
    rw [← O.sc]
    rfl
  nd := O.nd
  calm := O.calm
  kind := fun h => by cases h
  fnx := fun h => by cases h
  fnb := fun x h => by
    have h : scope.names.lookup x = some .cell := h
    show (scope.names.lookup x == some .cell) = true
    rw [h]; rfl
  own := PassesOwn.never
end
structure Snd (A : Stc) (c : C) : Prop where
  e : ∀ {G : Rt} {fa : Nat → Addr} {call : Calls} {k : Nat} {Γ : Gm} {X : Cx} {W : WX}, Okx A G fa call k Γ X → ∀ E, (chk A c).e Γ E = true → PE X E (tE G W (den A.T call call c).e)
  b : ∀ {G : Rt} {fa : Nat → Addr} {call : Calls} {k : Nat} {Γ : Gm} {X : Cx} {W : WX}, Okx A G fa call k Γ X → ∀ E, (chk A c).b Γ E = true → PT X E (tT G W (den A.T call call c).e)
  bw : ∀ {G : Rt} {fa : Nat → Addr} {call : Calls} {k : Nat} {Γ : Gm} {X : Cx} {W : WX}, Okx A G fa call k Γ X → ∀ op es p, (chk A c).b Γ (.BoolOp op es p) = true → PW X (.BoolOp op es p) (tT G W (den A.T call call c).e)
  l : ∀ {G : Rt} {fa : Nat → Addr} {call : Calls} {k : Nat} {Γ : Gm} {X : Cx} {W : WX}, Okx A G fa call k Γ X → ∀ es, (chk A c).l Γ es = true → PA X es (tL G W (den A.T call call c).l)
  w : ∀ {G : Rt} {fa : Nat → Addr} {call : Calls} {k : Nat} {Γ : Gm} {X : Cx} {W : WX}, Okx A G fa call k Γ X → ∀ es, (chk A c).w Γ es = true → Wth G W X es (den A.T call call c).l
  tp : ∀ {G : Rt} {fa : Nat → Addr} {call : Calls} {k : Nat} {Γ : Gm} {X : Cx} {W : WX}, Okx A G fa call k Γ X → ∀ es, (chk A c).tp Γ es = true → PA X es (tL G W (den A.T call call c).l)
  t : ∀ {G : Rt} {fa : Nat → Addr} {call : Calls} {k : Nat} {Γ : Gm} {X : Cx} {W : WX}, Okx A G fa call k Γ X → ∀ E, (chk A c).t Γ E = true → PG X E (tG G (den A.T call call c).t)
  ft : ∀ {G : Rt} {fa : Nat → Addr} {call : Calls} {k : Nat} {Γ : Gm} {X : Cx} {W : WX}, Okx A G fa call k Γ X → ∀ E, (chk A c).ft Γ E = true → ∀ V y p, noComp V = true → PE X V (tE G W y) → PS X (.Assign [E] V p) (tS G W (asgE y (den A.T call call c).t))
  i : ∀ {G : Rt} {fa : Nat → Addr} {call : Calls} {k : Nat} {Γ : Gm} {X : Cx} {W : WX}, Okx A G fa call k Γ X → ∀ T E, (chk A c).i Γ T E = true → PI X T E (tI G W (den A.T call call c).i)
section
variable {A : Stc} {c : C}
/-- an expression whose truth is asked plainly -/
theorem snd_E {f : Gm → Expr → Bool} (hc : chk A c = chE f) (hp : ∀ Γ E, f Γ E = true → plainT E = true)
    (he : ∀ {G : Rt} {fa : Nat → Addr} {call : Calls} {k : Nat} {Γ : Gm} {X : Cx} {W : WX}, Okx A G fa call k Γ X → ∀ E, f Γ E = true → PE X E (tE G W (den A.T call call c).e))
    (hi : ∀ call, (den A.T call call c).i = iterE (den A.T call call c).e) : Snd A c where
  e := fun O E h => he O E (by rw [hc] at h; exact h)
  b := fun O E h => by
    rw [hc] at h
    exact pt_plain O.ops.K (he O E h) (tru_plain (hp _ E h))
  bw := fun O op es p h => by
    rw [hc] at h
    have := hp _ _ h
    cases this
  l := fun O es h => by rw [hc] at h; cases h
  w := fun O es h => by rw [hc] at h; cases h
  tp := fun O es h => by rw [hc] at h; cases h
  t := fun O E h => by rw [hc] at h; cases h
  ft := fun O E h => by rw [hc] at h; cases h
  i := fun O T E h => by
    rw [hc] at h
    rw [hi]
    exact si_exp O.ops.K (he O E h)
/-- an expression with its own way of being asked for its truth -/
theorem snd_B {f g : Gm → Expr → Bool} (hc : chk A c = chB f g)
    (he : ∀ {G : Rt} {fa : Nat → Addr} {call : Calls} {k : Nat} {Γ : Gm} {X : Cx} {W : WX}, Okx A G fa call k Γ X → ∀ E, f Γ E = true → PE X E (tE G W (den A.T call call c).e))
    (hb : ∀ {G : Rt} {fa : Nat → Addr} {call : Calls} {k : Nat} {Γ : Gm} {X : Cx} {W : WX}, Okx A G fa call k Γ X → ∀ E, g Γ E = true → PT X E (tT G W (den A.T call call c).e))
    (hp : ∀ {G : Rt} {fa : Nat → Addr} {call : Calls} {k : Nat} {Γ : Gm} {X : Cx} {W : WX}, Okx A G fa call k Γ X → ∀ op es p, g Γ (.BoolOp op es p) = true → PW X (.BoolOp op es p) (tT G W (den A.T call call c).e))
    (hi : ∀ call, (den A.T call call c).i = iterE (den A.T call call c).e ∨ (den A.T call call c).i = fun _ _ => .bad) : Snd A c where
  e := fun O E h => he O E (by rw [hc] at h; exact h)
  b := fun O E h => hb O E (by rw [hc] at h; exact h)
  bw := fun O op es p h => hp O op es p (by rw [hc] at h; exact h)
  l := fun O es h => by rw [hc] at h; cases h
  w := fun O es h => by rw [hc] at h; cases h
  tp := fun O es h => by rw [hc] at h; cases h
  t := fun O E h => by rw [hc] at h; cases h
  ft := fun O E h => by rw [hc] at h; cases h
  i := fun {G fa call k Γ X W} O T E h => by
    rw [hc] at h
    rcases hi call with e | e
    · rw [e]
      exact si_exp O.ops.K (he O E h)
    · rw [e]
      exact ⟨fun pins s σ H R I ⟨F, ρ, e, S, hS, hE, hP⟩ => hP.elim⟩
theorem snd_v {i : Nat} : Snd A (.v i) where
  e := fun {G fa call k Γ X W} O E h => by
    cases E <;> first | cases h | skip
    rename_i x p
    obtain ⟨h, h4⟩ := and2 h
    obtain ⟨h, h3⟩ := and2 h
    obtain ⟨h1, h2⟩ := and2 h
    exact se_var (O.nN h1) (by rw [O.sc]; exact vis_of h2) (not_of h3) (not_of h4)
  b := fun {G fa call k Γ X W} O E h => by
    cases E <;> first | cases h | skip
    rename_i x p
    obtain ⟨h, h4⟩ := and2 h
    obtain ⟨h, h3⟩ := and2 h
    obtain ⟨h1, h2⟩ := and2 h
    exact pt_plain O.ops.K (se_var (O.nN h1) (by rw [O.sc]; exact vis_of h2) (not_of h3) (not_of h4)) (tru_plain rfl)
  bw := fun O op es p h => by cases h
  l := fun O es h => by cases h
  w := fun O es h => by cases h
  tp := fun O es h => by cases h
  t := fun {G fa call k Γ X} W O E h => by
    cases E <;> first | cases h | skip
    rename_i x p
    obtain ⟨h1, h2⟩ := and2 h
    refine sg_name O.nd (O.nN h1) ?_ ?_
    · rw [O.sc]
      rcases Bool.or_eq_true_iff.mp h2 with h2 | h2
      · exact .inl (loc_of h2)
      · exact .inr (cel_of (and2 h2).1)
    · rcases Bool.or_eq_true_iff.mp h2 with h2 | h2
      · exact .inr (by rw [O.sc]; exact loc_of h2)
      · exact .inl (O.fnx (not_of (and2 h2).2) x)
  ft := fun O E h => by cases h
  i := fun {G fa call k Γ X W} O T E h => by
    cases E <;> first | cases h | skip
    rename_i x p
    obtain ⟨h, h4⟩ := and2 h
    obtain ⟨h, h3⟩ := and2 h
    obtain ⟨h1, h2⟩ := and2 h
    exact si_exp O.ops.K (se_var (O.nN h1) (by rw [O.sc]; exact vis_of h2) (not_of h3) (not_of h4))
end
end Ev
set_option Elab.async false
set_option linter.all false
set_option maxRecDepth 100000
set_option maxHeartbeats 1000000
/-! E22: what the test tells, construct by construct. -/
namespace Ev
open PySem L2
open PyProof.Rows hiding St

variable {A : Stc} {a b c d : C}
theorem snd_k {p : PV} : Snd A (.k p) := by
  refine snd_B (f := fun Γ E => cstB p E) (g := fun _ _ => false) rfl (fun {G fa call k Γ X W} O E h => ?_) (fun O E h => by cases h) (fun O op es p h => by cases h) fun _ => .inl rfl
  cases p <;> cases E <;> first | (cases h; done) | skip
  all_goals (rename_i v _ _; cases v <;> first | (cases h; done) | skip)
  · exact se_k pe_non fun F ρ => by unfold rv; rfl
  · rename_i x _ _ y
    have e : x = y := by simpa [cstB] using h
    subst e
    exact se_k pe_bl fun F ρ => by unfold rv; rfl
  · rename_i x _ _ y
    have e : x = y := of_decide_eq_true h
    subst e
    exact se_k pe_int fun F ρ => by unfold rv; rfl
  · rename_i x _ _ y
    obtain ⟨h1, h2⟩ := and2 h
    have e : sT x = y := of_decide_eq_true h1
    subst e
    exact se_k pe_str fun F ρ => by unfold rv; exact ⟨rfl, h2⟩
theorem snd_g {n : Nat} : Snd A (.g n) := by
  refine snd_E rfl (fun Γ E h => ?_) (fun {G fa call k Γ X W} O E h => ?_) fun _ => rfl
  · cases E <;> first | rfl | cases h
  · cases E <;> first | cases h | skip
    rename_i x p
    obtain ⟨h1, h2⟩ := and2 h
    obtain ⟨g1, g2⟩ := O.gl h1
    obtain ⟨q, v, u, e1, e2, r, rr⟩ := O.fax.gl x n h2
    have e3 : (den A.T call call (.g n)).e = fun _ S => .ok q S := by
      funext e S
      show opt A.T.globs[n]? S = _
      rw [e1]; rfl
    rw [e3]
    exact se_glob g1 e2 r rr g2
theorem snd_bin {o : BOp} (ha : Snd A a) (hb : Snd A b) : Snd A (.bin o a b) := by
  refine snd_E rfl (fun Γ E h => ?_) (fun {G fa call k Γ X W} O E h => ?_) fun _ => rfl
  · cases E <;> first | rfl | cases h
  · cases E <;> first | cases h | skip
    obtain ⟨h, h3⟩ := and2 h
    obtain ⟨h1, h2⟩ := and2 h
    rw [op_of h1]
    have := se_bin (pos := by assumption) (W := W) (op_bin (o := o) O.ops) (ha.e O _ h2) (hb.e O _ h3)
    rw [O.fax.T] at this
    exact this
theorem snd_neg (ha : Snd A a) : Snd A (.neg a) := by
  refine snd_B rfl (fun {G fa call k Γ X W} O E h => ?_) (fun O E h => by cases h) (fun O op es p h => by cases h) fun _ => .inr rfl
  cases E <;> first | cases h | skip
  rename_i op l p
  cases op <;> first | cases h | skip
  have := se_un (pos := p) (W := W) (op_neg O.ops) (ha.e O _ h)
  rw [O.fax.T] at this
  exact this
theorem snd_cmp {o : COp} (ha : Snd A a) (hb : Snd A b) : Snd A (.cmp o a b) := by
  have key : ∀ {Γ : Gm} {E : Expr}, (chk A (.cmp o a b)).e Γ E = true → ∃ l op r p, E = .Compare l [op] [r] p ∧ op = opC o ∧ noSet r = true ∧ (chk A a).e Γ l = true ∧ (chk A b).e Γ r = true := fun {Γ E} h => by
    cases E <;> first | cases h | skip
    rename_i l ops rs p
    match ops, rs, h with
    | [op], [r], h =>
      obtain ⟨h, h4⟩ := and2 h
      obtain ⟨h, h3⟩ := and2 h
      obtain ⟨h1, h2⟩ := and2 h
      exact ⟨l, op, r, p, rfl, cp_of h1, h2, h3, h4⟩
    | [], _, h => cases h
    | [_], [], h => cases h
    | [_], _ :: _ :: _, h => cases h
    | _ :: _ :: _, _, h => cases h
  refine snd_B rfl (fun {G fa call k Γ X W} O E h => ?_) (fun {G fa call k Γ X W} O E h => ?_) (fun {G fa call k Γ X W} O op es p h => ?_) fun _ => .inr rfl
  · obtain ⟨l, op, r, p, rfl, rfl, h2, h3, h4⟩ := key h
    have := se_cmp (pos := p) (W := W) (op_cmp (o := o) O.ops) (ha.e O _ h3) (hb.e O _ h4) (marks_no h2)
    rw [O.fax.T] at this
    exact this
  · obtain ⟨l, op, r, p, rfl, rfl, h2, h3, h4⟩ := key h
    have := st_cmp (pos := p) (W := W) O.ops.K (op_cmp (o := o) O.ops) (ha.e O _ h3) (hb.e O _ h4) (marks_no h2)
    rw [O.fax.T] at this
    exact this
  · obtain ⟨l, op, r, p, e, _⟩ := key (Γ := Γ) (E := .BoolOp op es p) h
    cases e
theorem snd_chain {o o' : COp} (ha : Snd A a) (hb : Snd A b) (hc : Snd A c) : Snd A (.chain o o' a b c) := by
  have key : ∀ {Γ : Gm} {E : Expr}, (chk A (.chain o o' a b c)).e Γ E = true → ∃ l op op' r q p, E = .Compare l [op, op'] [r, q] p ∧ op = opC o ∧ op' = opC o' ∧ noSet q = true ∧ (chk A a).e Γ l = true ∧ (chk A b).e Γ r = true ∧ (chk A c).e Γ q = true := fun {Γ E} h => by
    cases E <;> first | cases h | skip
    rename_i l ops rs p
    match ops, rs, h with
    | [op, op'], [r, q], h =>
      obtain ⟨h, h6⟩ := and2 h
      obtain ⟨h, h5⟩ := and2 h
      obtain ⟨h, h4⟩ := and2 h
      obtain ⟨h, h3⟩ := and2 h
      obtain ⟨h1, h2⟩ := and2 h
      exact ⟨l, op, op', r, q, p, rfl, cp_of h1, cp_of h2, h3, h4, h5, h6⟩
    | [], _, h => cases h
    | [_], _, h => cases h
    | [_, _], [], h => cases h
    | [_, _], [_], h => cases h
    | [_, _], _ :: _ :: _ :: _, h => cases h
    | _ :: _ :: _ :: _, _, h => cases h
  refine snd_B rfl (fun {G fa call k Γ X W} O E h => ?_) (fun {G fa call k Γ X W} O E h => ?_) (fun {G fa call k Γ X W} O op es p h => ?_) fun _ => .inr rfl
  · obtain ⟨l, op, op', r, q, p, rfl, rfl, rfl, h3, h4, h5, h6⟩ := key h
    have := se_chain (pos := p) (W := W) (op_cmp (o := o) O.ops) (op_cmp (o := o') O.ops) (ha.e O _ h4) (hb.e O _ h5) (hc.e O _ h6) (marks_no h3)
    rw [O.fax.T] at this
    exact this
  · obtain ⟨l, op, op', r, q, p, rfl, rfl, rfl, h3, h4, h5, h6⟩ := key h
    have := st_chain (pos := p) (W := W) O.ops.K (op_cmp (o := o) O.ops) (op_cmp (o := o') O.ops) (ha.e O _ h4) (hb.e O _ h5) (hc.e O _ h6) (marks_no h3)
    rw [O.fax.T] at this
    exact this
  · obtain ⟨l, op, op', r, q, p, e, _⟩ := key (Γ := Γ) (E := .BoolOp op es p) h
    cases e
theorem snd_and (ha : Snd A a) (hb : Snd A b) : Snd A (.and a b) := by
  have pw : ∀ {G : Rt} {fa : Nat → Addr} {call : Calls} {k : Nat} {Γ : Gm} {X : Cx} {W : WX}, Okx A G fa call k Γ X → ∀ op es p, (chk A (.and a b)).b Γ (.BoolOp op es p) = true → PW X (.BoolOp op es p) (tT G W (den A.T call call (.and a b)).e) := fun {G fa call k Γ X W} O op es p h => by
    cases op with
    | Or => match es, h with
      | [], h => cases h
      | _ :: _, h => cases h
    | And =>
      match es, h with
      | [], h => cases h
      | [_], h => cases h
      | [l, r], h =>
        obtain ⟨h1, h2⟩ := and2 h
        exact sw_and (ha.b O _ h1) (pw_one (hb.b O _ h2))
      | l :: r :: q :: u, h =>
        obtain ⟨h1, h2⟩ := and2 h
        exact sw_and (ha.b O _ h1) (hb.bw O _ _ _ h2)
  refine snd_B rfl (fun {G fa call k Γ X W} O E h => ?_) (fun {G fa call k Γ X W} O E h => ?_) (fun O op es p h => pw O op es p h) fun _ => .inr rfl
  · cases E <;> first | cases h | skip
    rename_i op es p
    cases op with
    | Or => match es, h with
      | [], h => cases h
      | _ :: _, h => cases h
    | And =>
      match es, h with
      | [], h => cases h
      | [_], h => cases h
      | [l, r], h =>
        obtain ⟨h1, h2⟩ := and2 h
        exact se_and O.ops.K (ha.e O _ h1) (se_one (hb.e O _ h2))
      | l :: r :: q :: u, h =>
        obtain ⟨h1, h2⟩ := and2 h
        exact se_and O.ops.K (ha.e O _ h1) (hb.e O _ h2)
  · cases E <;> first | cases h | skip
    exact (pw O _ _ _ h).pt
theorem snd_or (ha : Snd A a) (hb : Snd A b) : Snd A (.or a b) := by
  have pw : ∀ {G : Rt} {fa : Nat → Addr} {call : Calls} {k : Nat} {Γ : Gm} {X : Cx} {W : WX}, Okx A G fa call k Γ X → ∀ op es p, (chk A (.or a b)).b Γ (.BoolOp op es p) = true → PW X (.BoolOp op es p) (tT G W (den A.T call call (.or a b)).e) := fun {G fa call k Γ X W} O op es p h => by
    cases op with
    | And => match es, h with
      | [], h => cases h
      | _ :: _, h => cases h
    | Or =>
      match es, h with
      | [], h => cases h
      | [_], h => cases h
      | [l, r], h =>
        obtain ⟨h1, h2⟩ := and2 h
        exact sw_or (ha.b O _ h1) (pw_one (hb.b O _ h2))
      | l :: r :: q :: u, h =>
        obtain ⟨h1, h2⟩ := and2 h
        exact sw_or (ha.b O _ h1) (hb.bw O _ _ _ h2)
  refine snd_B rfl (fun {G fa call k Γ X W} O E h => ?_) (fun {G fa call k Γ X W} O E h => ?_) (fun O op es p h => pw O op es p h) fun _ => .inr rfl
  · cases E <;> first | cases h | skip
    rename_i op es p
    cases op with
    | And => match es, h with
      | [], h => cases h
      | _ :: _, h => cases h
    | Or =>
      match es, h with
      | [], h => cases h
      | [_], h => cases h
      | [l, r], h =>
        obtain ⟨h1, h2⟩ := and2 h
        exact se_or O.ops.K (ha.e O _ h1) (se_one (hb.e O _ h2))
      | l :: r :: q :: u, h =>
        obtain ⟨h1, h2⟩ := and2 h
        exact se_or O.ops.K (ha.e O _ h1) (hb.e O _ h2)
  · cases E <;> first | cases h | skip
    exact (pw O _ _ _ h).pt
theorem snd_not (ha : Snd A a) : Snd A (.not a) := by
  refine snd_B rfl (fun {G fa call k Γ X W} O E h => ?_) (fun {G fa call k Γ X W} O E h => ?_) (fun O op es p h => by cases h) fun _ => .inr rfl
  · cases E <;> first | cases h | skip
    rename_i op l p
    cases op <;> first | cases h | skip
    exact se_not O.ops.K (ha.e O _ h)
  · cases E <;> first | cases h | skip
    rename_i op l p
    cases op <;> first | cases h | skip
    exact st_not (ha.b O _ h)
theorem snd_ite (hc : Snd A c) (ha : Snd A a) (hb : Snd A b) : Snd A (.ite c a b) := by
  refine snd_B rfl (fun {G fa call k Γ X W} O E h => ?_) (fun {G fa call k Γ X W} O E h => ?_) (fun O op es p h => by cases h) fun _ => .inl rfl
  · cases E <;> first | cases h | skip
    obtain ⟨h, h3⟩ := and2 h
    obtain ⟨h1, h2⟩ := and2 h
    exact se_ite (hc.b O _ h1) (ha.e O _ h2) (hb.e O _ h3)
  · cases E <;> first | cases h | skip
    obtain ⟨h, h3⟩ := and2 h
    obtain ⟨h1, h2⟩ := and2 h
    exact st_ite (hc.b O _ h1) (ha.b O _ h2) (hb.b O _ h3)
/-! ### argument lists and displays -/
theorem snd_nil : Snd A .nil where
  e := fun O E h => by cases h
  b := fun O E h => by cases h
  bw := fun O op es p h => by cases h
  l := fun O es h => by
    cases es with
    | nil => exact sl_nil
    | cons _ _ => cases h
  w := fun O es h => by
    cases es with
    | nil => exact wth_nil
    | cons _ _ => cases h
  tp := fun O es h => by cases h
  t := fun O E h => by cases h
  ft := fun O E h => by cases h
  i := fun O T E h => by cases h
theorem snd_cons (ha : Snd A a) (hb : Snd A b) : Snd A (.cons a b) where
  e := fun O E h => by cases h
  b := fun O E h => by cases h
  bw := fun O op es p h => by cases h
  l := fun O es h => by
    cases es with
    | nil => cases h
    | cons E r =>
      obtain ⟨h, h3⟩ := and2 h
      obtain ⟨h1, h2⟩ := and2 h
      exact sl_cons h1 (ha.e O _ h2) (hb.l O _ h3)
  w := fun O es h => by
    cases es with
    | nil => cases h
    | cons E r =>
      obtain ⟨h, h3⟩ := and2 h
      obtain ⟨h1, h2⟩ := and2 h
      exact wth_cons h1 (sl_cons h1 (ha.e O _ h2) (hb.l O _ h3))
  tp := fun O es h => by cases h
  t := fun O E h => by cases h
  ft := fun O E h => by cases h
  i := fun O T E h => by cases h
theorem snd_star (ha : Snd A a) (hb : Snd A b) : Snd A (.star a b) where
  e := fun O E h => by cases h
  b := fun O E h => by cases h
  bw := fun O op es p h => by cases h
  l := fun O es h => by
    cases es with
    | nil => cases h
    | cons E r =>
      cases E <;> first | cases h | skip
      obtain ⟨h1, h2⟩ := and2 h
      exact sl_star O.ops.K (ha.e O _ h1) (hb.l O _ h2)
  w := fun O es h => by
    match es, h with
    | [], h => cases h
    | [E], h =>
      cases E <;> first | cases h | skip
      obtain ⟨h1, h2⟩ := and2 h
      cases b <;> first | cases h2 | skip
      exact wth_star O.ops.K (ha.e O _ h1)
    | E :: _ :: _, h => cases E <;> cases h
  tp := fun O es h => by cases h
  t := fun O E h => by cases h
  ft := fun O E h => by cases h
  i := fun O T E h => by cases h
theorem snd_lst (ha : Snd A a) : Snd A (.lst a) := by
  refine snd_E rfl (fun Γ E h => ?_) (fun {G fa call k Γ X W} O E h => ?_) fun _ => rfl
  · cases E <;> first | rfl | cases h
  · cases E <;> first | cases h | skip
    exact se_lst (ha.l O _ h)
theorem snd_ix (ha : Snd A a) (hb : Snd A b) : Snd A (.ix a b) where
  e := fun {G fa call k Γ X W} O E h => by
    cases E <;> first | cases h | skip
    obtain ⟨h, h3⟩ := and2 h
    obtain ⟨h1, h2⟩ := and2 h
    exact se_ix O.ops.room O.ops.K (ha.e O _ h2) (hb.e O _ h3) (plain_ix h1)
  b := fun {G fa call k Γ X W} O E h => by
    cases E <;> first | cases h | skip
    obtain ⟨h, h3⟩ := and2 h
    obtain ⟨h1, h2⟩ := and2 h
    exact pt_plain O.ops.K (se_ix O.ops.room O.ops.K (ha.e O _ h2) (hb.e O _ h3) (plain_ix h1)) (tru_plain rfl)
  bw := fun O op es p h => by cases h
  l := fun O es h => by cases h
  w := fun O es h => by cases h
  tp := fun O es h => by cases h
  t := fun {G fa call k Γ X} W O E h => by
    cases E <;> first | cases h | skip
    obtain ⟨h, h3⟩ := and2 h
    obtain ⟨h1, h2⟩ := and2 h
    exact sg_ix (W := fun _ _ _ _ => True) (ha.e O _ h2) (hb.e O _ h3) (asg_ix h1)
  ft := fun O E h => by cases h
  i := fun {G fa call k Γ X W} O T E h => by
    cases E <;> first | cases h | skip
    obtain ⟨h, h3⟩ := and2 h
    obtain ⟨h1, h2⟩ := and2 h
    exact si_exp O.ops.K (se_ix O.ops.room O.ops.K (ha.e O _ h2) (hb.e O _ h3) (plain_ix h1))
theorem snd_sl (ha : Snd A a) (hb : Snd A b) (hc : Snd A c) : Snd A (.sl a b c) := by
  refine snd_E rfl (fun Γ E h => ?_) (fun {G fa call k Γ X W} O E h => ?_) fun _ => rfl
  · cases E <;> first | rfl | cases h
  · cases E <;> first | cases h | skip
    rename_i l S p
    cases S <;> first | cases h | skip
    rename_i u v st p2
    cases st with
    | some _ => cases h
    | none =>
      obtain ⟨h, h3⟩ := and2 h
      obtain ⟨h1, h2⟩ := and2 h
      refine se_sl O.ops.K (ha.e O _ h1) ?_ ?_
      · cases u with
        | none =>
          have h2 : isNil b = true := h2
          rw [h2]
          exact so_none
        | some u =>
          obtain ⟨h4, h5⟩ := and2 h2
          rw [not_of h4]
          exact so_some (hb.e O _ h5)
      · cases v with
        | none =>
          have h3 : isNil c = true := h3
          rw [h3]
          exact so_none
        | some v =>
          obtain ⟨h4, h5⟩ := and2 h3
          rw [not_of h4]
          exact so_some (hc.e O _ h5)
theorem snd_attr {n : Nat} (ha : Snd A a) : Snd A (.attr a n) where
  e := fun {G fa call k Γ X W} O E h => by
    cases E <;> first | cases h | skip
    obtain ⟨h, h3⟩ := and2 h
    obtain ⟨h1, h2⟩ := and2 h
    have e1 := of_decide_eq_true h1
    rw [e1, ← O.fax.nm n]
    have := se_attr (pos := by assumption) (W := W) (n := n) O.ops.K O.ops.cls O.ops.fn O.ops.room O.ops.gd (ha.e O _ h3) (base_no h2)
    rw [O.fax.T] at this
    exact this
  b := fun {G fa call k Γ X W} O E h => by
    cases E <;> first | cases h | skip
    obtain ⟨h, h3⟩ := and2 h
    obtain ⟨h1, h2⟩ := and2 h
    have e1 := of_decide_eq_true h1
    rw [e1, ← O.fax.nm n]
    have := se_attr (pos := by assumption) (W := W) (n := n) O.ops.K O.ops.cls O.ops.fn O.ops.room O.ops.gd (ha.e O _ h3) (base_no h2)
    rw [O.fax.T] at this
    exact pt_plain O.ops.K this (tru_plain rfl)
  bw := fun O op es p h => by cases h
  l := fun O es h => by cases h
  w := fun O es h => by cases h
  tp := fun O es h => by cases h
  t := fun O E h => by cases h
  ft := fun {G fa call k Γ X W} O E h V y p hV hy => by
    cases E <;> first | cases h | skip
    obtain ⟨h, h3⟩ := and2 h
    obtain ⟨h1, h2⟩ := and2 h
    have e1 := of_decide_eq_true h1
    rw [e1, ← O.fax.nm n]
    have := ss_fld (pos := p) (W := W) (n := n) (pos' := by assumption) O.ops.K O.ops.cls (ha.e O _ h3) hy (swap_no hV)
    rw [O.fax.T] at this
    exact this
  i := fun {G fa call k Γ X W} O T E h => by
    cases E <;> first | cases h | skip
    obtain ⟨h, h3⟩ := and2 h
    obtain ⟨h1, h2⟩ := and2 h
    have e1 := of_decide_eq_true h1
    rw [e1, ← O.fax.nm n]
    have := se_attr (pos := by assumption) (W := W) (n := n) O.ops.K O.ops.cls O.ops.fn O.ops.room O.ops.gd (ha.e O _ h3) (base_no h2)
    rw [O.fax.T] at this
    exact si_exp O.ops.K this
end Ev
set_option Elab.async false
set_option linter.all false
set_option maxRecDepth 100000
set_option maxHeartbeats 1000000
/-! E23: what the test tells: calls, built-ins, what is walked. -/
namespace Ev
open PySem L2
open PyProof.Rows hiding St

variable {A : Stc} {a b c d : C}
theorem perm_nil {perm : List Nat} (h : perm.isEmpty = true) (vs : List PV) : permV perm vs = vs := by
  cases perm with
  | nil => rfl
  | cons _ _ => cases h
theorem snd_call {f : Nat} {perm : List Nat} (ha : Snd A a) : Snd A (.call f a perm) := by
  refine snd_E rfl (fun Γ E h => ?_) (fun {G fa call k Γ X W} O E h => ?_) fun _ => rfl
  · cases E <;> first | rfl | cases h
  · cases E <;> first | cases h | skip
    rename_i fn es ks p
    cases fn <;> first | cases h | skip
    cases ks with
    | cons _ _ => cases h
    | nil =>
      obtain ⟨h, h4⟩ := and2 h
      obtain ⟨h, h3⟩ := and2 h
      obtain ⟨h1, h2⟩ := and2 h
      obtain ⟨g1, g2⟩ := O.gl h2
      obtain ⟨m1, m2⟩ := O.fax.fn _ _ h3
      have e1 : (den A.T call call (.call f a perm)).e = fun e S => ((den A.T call call a).l e S).bind fun ps S => call f ps S := by
        funext e S
        show ((den A.T call call a).l e S).bind (fun ps S => call f (permV perm ps) S) = _
        simp only [perm_nil h1]
      rw [e1]
      exact se_call (O.ops.fn f) (O.ops.room.mono (Nat.le_succ k)) O.ops.gd g1 m1 (by rw [O.ops.K]; exact m2) g2 (ha.w O _ h4)
theorem snd_make {f : Nat} {perm : List Nat} (ha : Snd A a) : Snd A (.make f a perm) := by
  have he : ∀ {G : Rt} {fa : Nat → Addr} {call : Calls} {k : Nat} {Γ : Gm} {X : Cx} {W : WX}, Okx A G fa call k Γ X → ∀ E, (chk A (.make f a perm)).e Γ E = true → PE X E (tE G W (den A.T call call (.make f a perm)).e) := fun {G fa call k Γ X W} O E h => by
    cases E <;> first | cases h | skip
    rename_i fn es ks p
    cases fn <;> first | cases h | skip
    cases ks with
    | cons _ _ => cases h
    | nil =>
      obtain ⟨h, h5⟩ := and2 h
      obtain ⟨h, h4⟩ := and2 h
      obtain ⟨h, h3⟩ := and2 h
      obtain ⟨h1, h2⟩ := and2 h
      obtain ⟨g1, g2⟩ := O.gl h2
      have m1 := O.fax.cls _ _ h3
      obtain ⟨kl, hk⟩ := Option.isSome_iff_exists.mp h5
      rw [← O.fax.T] at hk
      have e1 : (den A.T call call (.make f a perm)).e = fun e S => ((den A.T call call a).l e S).bind fun ps S => makeE A.T call f ps S := by
        funext e S
        show ((den A.T call call a).l e S).bind (fun ps S => makeE A.T call f (permV perm ps) S) = _
        simp only [perm_nil h1]
      rw [e1]
      rw [O.fax.T] at hk
      have hk' := hk
      rw [← O.fax.T] at hk'
      exact se_make O.ops.K hk (O.ops.cls f kl hk').made (O.ops.fn kl.init) O.ops.room O.ops.gd g1 m1 g2 (ha.w O _ h4)
  exact
    { e := he
      b := fun O E h => by cases h
      bw := fun O op es p h => by cases h
      l := fun O es h => by cases h
      w := fun O es h => by cases h
      tp := fun O es h => by cases h
      t := fun O E h => by cases h
      ft := fun O E h => by cases h
      i := fun O T E h => by cases h }
theorem snd_meth {n : Nat} {perm : List Nat} (ha : Snd A a) (hb : Snd A b) : Snd A (.meth a n b perm) := by
  refine snd_E rfl (fun Γ E h => ?_) (fun {G fa call k Γ X W} O E h => ?_) fun _ => rfl
  · cases E <;> first | rfl | cases h
  · cases E <;> first | cases h | skip
    rename_i fn es ks p
    cases fn <;> first | cases h | skip
    rename_i o m ap
    cases ks with
    | cons _ _ => cases h
    | nil =>
      obtain ⟨h, h8⟩ := and2 h
      obtain ⟨h, h7⟩ := and2 h
      obtain ⟨h, h6⟩ := and2 h
      obtain ⟨h, h5⟩ := and2 h
      obtain ⟨h, h4⟩ := and2 h
      obtain ⟨h, h3⟩ := and2 h
      obtain ⟨h1, h2⟩ := and2 h
      have e1 := of_decide_eq_true h2
      rw [e1, ← O.fax.nm n]
      have e1 : (den A.T call call (.meth a n b perm)).e = fun e S => ((den A.T call call a).e e S).bind fun p S => (opt (methF G.T p n S) S).bind fun f S => ((den A.T call call b).l e S).bind fun ps S => call f (p :: ps) S := by
        funext e S
        rw [O.fax.T]
        show ((den A.T call call a).e e S).bind (fun p S => (opt (methF A.T p n S) S).bind fun f S => ((den A.T call call b).l e S).bind fun ps S => call f (p :: permV perm ps) S) = _
        simp only [perm_nil h1]
      rw [e1]
      exact se_meth O.ops.K O.ops.cls O.ops.fn (O.ops.room.mono (Nat.le_succ k)) O.ops.gd (ha.e O _ h7) (hb.w O _ h8) (ht_of (base_no h3) h4 (of_decide_eq_true h5) h6)
theorem snd_cmeth {f n : Nat} {perm : List Nat} (hb : Snd A b) : Snd A (.cmeth f n b perm) := by
  refine snd_E rfl (fun Γ E h => ?_) (fun {G fa call k Γ X W} O E h => ?_) fun _ => rfl
  · cases E <;> first | rfl | cases h
  · cases E <;> first | cases h | skip
    rename_i fn es ks p
    cases fn <;> first | cases h | skip
    rename_i o m ap
    cases es with
    | nil => cases h
    | cons q r =>
      cases ks with
      | cons _ _ => cases h
      | nil =>
        obtain ⟨h, h8⟩ := and2 h
        obtain ⟨h, h7⟩ := and2 h
        obtain ⟨h, h6⟩ := and2 h
        obtain ⟨h, h5⟩ := and2 h
        obtain ⟨h, h4⟩ := and2 h
        obtain ⟨h, h3⟩ := and2 h
        obtain ⟨h1, h2⟩ := and2 h
        have e1 := of_decide_eq_true h2
        cases o <;> first | cases h3 | skip
        rename_i x px
        obtain ⟨h9, h10⟩ := and2 h3
        obtain ⟨g1, g2⟩ := O.gl h9
        have m1 := O.fax.cls _ _ h10
        obtain ⟨g, hg⟩ := Option.isSome_iff_exists.mp h8
        cases hk : A.T.cls[f]? with
        | none => rw [hk] at hg; cases hg
        | some kl =>
          rw [hk] at hg
          have hg : kl.cms.lookup n = some g := hg
          have hk' := hk
          rw [← O.fax.T] at hk'
          rw [e1, ← O.fax.nm n]
          have e2 : (den A.T call call (.cmeth f n b perm)).e = fun e S => ((den A.T call call b).l e S).bind fun ps S => call g (.obj f :: ps) S := by
            funext e S
            show ((den A.T call call b).l e S).bind (fun ps S => match cmethOf A.T f n with
              | some f' => call f' (.obj f :: permV perm ps) S
              | none => .bad) = _
            have e3 : cmethOf A.T f n = some g := by unfold cmethOf; rw [hk]; exact hg
            rw [e3]
            simp only [perm_nil h1]
          rw [e2]
          exact se_cmeth O.ops.K (O.fax.cm f kl n g hk' hg) O.ops.fn (O.ops.room.mono (Nat.le_succ k)) O.ops.gd (pe_glob g1 m1 rfl g2) h4 (hb.l O _ h7) (ht_of rfl h4 (of_decide_eq_true h5) h6)
theorem snd_freeze (ha : Snd A a) : Snd A (.freeze a) := by
  refine snd_E rfl (fun Γ E h => ?_) (fun {G fa call k Γ X W} O E h => ?_) fun _ => rfl
  · cases E <;> first | rfl | cases h
  · cases E <;> first | cases h | skip
    exact se_freeze (ha.e O _ h)
/-- a built-in type as a value -/
theorem pe_bty {X : Cx} {x : Str} {p : Pos} {T : String} (hg : Gl X x) (hm : X.mg x = none) (hv : bootBuiltins x = some (.type T)) (hn : x ≠ "__name__") (hd : (x == ("__debug__" : Str)) = false) : PE X (.Name x p) (tC (.ty T)) :=
  ⟨fun pins s σ H Q I h => ld_blt I hg hm hv ⟨.ty T, H, I, rfl, h⟩ hn hd⟩
theorem snd_isi {t : Ty} (ha : Snd A a) : Snd A (.blt (.isi [t]) (.cons a .nil)) := by
  refine snd_E rfl (fun Γ E h => ?_) (fun {G fa call k Γ X W} O E h => ?_) fun _ => rfl
  · cases E <;> first | rfl | cases h
  · cases E <;> first | cases h | skip
    rename_i fn es ks p
    cases fn <;> first | cases h | skip
    match es, ks, h with
    | [q, ty], [], h =>
      obtain ⟨h, h5⟩ := and2 h
      obtain ⟨h, h4⟩ := and2 h
      obtain ⟨h, h3⟩ := and2 h
      obtain ⟨h1, h2⟩ := and2 h
      obtain ⟨e1, g1, g2, g3, g4⟩ := O.blt h1
      subst e1
      have hty : PE X ty (tC (tyV G t)) ∧ ∀ c, t = .own c → ∃ kl, G.T.cls[c]? = some kl := by
        cases t with
        | own c =>
          obtain ⟨h6, h7⟩ := and2 h5
          cases ty <;> first | cases h6 | skip
          obtain ⟨h9, h10⟩ := and2 h6
          obtain ⟨k1, k2⟩ := O.gl h9
          refine ⟨pe_glob k1 (O.fax.cls _ _ h10) rfl k2, fun c' e => ?_⟩
          cases e
          rw [O.fax.T]
          exact Option.isSome_iff_exists.mp h7
        | _ =>
          cases ty <;> first | cases h5 | skip
          obtain ⟨e2, k1, k2, k3, k4⟩ := O.blt h5
          subst e2
          refine ⟨?_, fun c e => by cases e⟩
          exact pe_bty k1 k2 (by decide +kernel) k3 k4
      have := se_isi (pos := p) (W := W) (p := by assumption) O.ops.K (fun c kl hk => ⟨(O.ops.cls c kl hk).cl, O.fax.is c kl hk⟩) hty.2 g1 g2 h2 h3 (ha.e O _ h4) hty.1
      rw [O.fax.T] at this
      have e3 : (den A.T call call (.blt (.isi [t]) (.cons a .nil))).e = fun e S => ((den A.T call call a).e e S).bind fun p S => (opt (isiO A.T t p) S).bind fun b S => .ok (.bl b) S := by
        funext e S
        show ((((den A.T call call a).e e S).bind fun p S => (R.ok ([] : List PV) S).bind fun ps S => .ok (p :: ps) S)).bind (fun ps S => bltE A.T call (.isi [t]) ps S) = _
        rw [bind_assoc]
        rfl
      rw [e3]
      exact this
    | [], _, h => cases h
    | [_], _, h => cases h
    | _ :: _ :: _ :: _, _, h => cases h
    | [_, _], _ :: _, h => cases h
end Ev
set_option Elab.async false
set_option linter.all false
set_option maxRecDepth 100000
set_option maxHeartbeats 1000000
/-! E24: what the test tells: built-ins, methods, what is walked; targets; statements. -/
namespace Ev
open PySem L2
open PyProof.Rows hiding St

variable {A : Stc} {a b c d : C}
theorem snd_raise : Snd A (.raise a) where
  e := fun O E h => ⟨fun pins s σ H Q I ⟨F, ρ, e, S, hS, hE, hP⟩ => hP.elim⟩
  b := fun O E h => by cases h
  bw := fun O op es p h => by cases h
  l := fun O es h => by cases h
  w := fun O es h => by cases h
  tp := fun O es h => by cases h
  t := fun O E h => by cases h
  ft := fun O E h => by cases h
  i := fun O T E h => by cases h
theorem snd_lstc (ha : Snd A a) : Snd A (.lstc a) where
  e := fun {G fa call k Γ X W} O E h => by
    cases E <;> first | cases h | skip
    exact se_lstc (ha.l O _ h)
  b := fun O E h => by cases h
  bw := fun O op es p h => by cases h
  l := fun O es h => by cases h
  w := fun O es h => by cases h
  tp := fun O es h => by cases h
  t := fun O E h => by cases h
  ft := fun O E h => by cases h
  i := fun O T E h => by cases h
theorem snd_blt {o : Blt} (ha : Snd A a) (hno : ∀ t b, ¬ (o = .isi [t] ∧ a = .cons b .nil)) : Snd A (.blt o a) := by
  have hc : chk A (.blt o a) = chE fun Γ E => match E with
      | .Call (.Name m _) (q :: r) [] _ => (match bltN o with
        | some (nm, _) => bltB A Γ m nm && (q :: r).all nostar && (chk A a).l Γ (q :: r)
        | none => false)
      | _ => false := by
    cases o with
    | isi ts =>
      match ts with
      | [] => rfl
      | _ :: _ :: _ => rfl
      | [t] =>
        cases a with
        | cons b l =>
          cases l with
          | nil => exact absurd ⟨rfl, rfl⟩ (hno t b)
          | _ => rfl
        | _ => rfl
    | _ => rfl
  refine snd_E hc (fun Γ E h => ?_) (fun {G fa call k Γ X W} O E h => ?_) fun _ => rfl
  · cases E <;> first | rfl | cases h
  · cases E <;> first | cases h | skip
    rename_i fn es ks p
    cases fn <;> first | cases h | skip
    cases es with
    | nil => cases h
    | cons q r =>
      cases ks with
      | cons _ _ => cases h
      | nil =>
        dsimp only at h
        cases o <;> first | cases h | skip
        all_goals
          obtain ⟨h, h3⟩ := and2 h
          obtain ⟨h1, h2⟩ := and2 h
          obtain ⟨e1, g1, g2, g3, g4⟩ := O.blt h1
          subst e1
        · have := se_callB (pos := p) (p := by assumption) (W := W) (on_len O.ops) g1 g2 PySem.boot_len g3 g4 h2 (ha.l O _ h3)
          rw [O.fax.T] at this
          exact this
        · have := se_callB (pos := p) (p := by assumption) (W := W) (on_abs (G := G) (call := call)) g1 g2 PyProof.Rows.boot_abs g3 g4 h2 (ha.l O _ h3)
          rw [O.fax.T] at this
          exact this
        · have := se_callB (pos := p) (p := by assumption) (W := W) (on_max (G := G) (call := call) O.calm) g1 g2 PyProof.Rows.boot_max g3 g4 h2 (ha.l O _ h3)
          rw [O.fax.T] at this
          exact this
        · have := se_callB (pos := p) (p := by assumption) (W := W) (on_min (G := G) (call := call) O.calm) g1 g2 PyProof.Rows.boot_min g3 g4 h2 (ha.l O _ h3)
          rw [O.fax.T] at this
          exact this
        · have := se_callT (pos := p) (p := by assumption) (W := W) (on_int (G := G) (call := call)) g1 g2 PyProof.Rows.boot_int g3 g4 h2 (ha.l O _ h3)
          rw [O.fax.T] at this
          exact this
        · have := se_callT (pos := p) (p := by assumption) (W := W) (on_str O.ops) g1 g2 PyProof.Rows.boot_str g3 g4 h2 (ha.l O _ h3)
          rw [O.fax.T] at this
          exact this
        · have := se_callT (pos := p) (p := by assumption) (W := W) (on_tuple (G := G) (call := call) O.ops.K) g1 g2 PyProof.Rows.boot_tuple g3 g4 h2 (ha.l O _ h3)
          rw [O.fax.T] at this
          exact this
        · have := se_callT (pos := p) (p := by assumption) (W := W) (on_list (G := G) (call := call) O.ops.K) g1 g2 PyProof.Rows.boot_list g3 g4 h2 (ha.l O _ h3)
          rw [O.fax.T] at this
          exact this
        · have := se_callB (pos := p) (p := by assumption) (W := W) (on_sorted (G := G) (call := call) O.calm O.ops.K) g1 g2 PyProof.Rows.boot_sorted g3 g4 h2 (ha.l O _ h3)
          rw [O.fax.T] at this
          exact this
        · have := se_callB (pos := p) (p := by assumption) (W := W) (on_sum (G := G) (call := call) O.calm O.ops.K) g1 g2 PyProof.Rows.boot_sum g3 g4 h2 (ha.l O _ h3)
          rw [O.fax.T] at this
          exact this
        · have := se_callB (pos := p) (p := by assumption) (W := W) (on_all (G := G) (call := call) O.calm) g1 g2 PyProof.Rows.boot_all g3 g4 h2 (ha.l O _ h3)
          rw [O.fax.T] at this
          exact this
        · have := se_callB (pos := p) (p := by assumption) (W := W) (on_any (G := G) (call := call) O.calm) g1 g2 PyProof.Rows.boot_any g3 g4 h2 (ha.l O _ h3)
          rw [O.fax.T] at this
          exact this
        · have := se_callB (pos := p) (p := by assumption) (W := W) (on_divmod (G := G) (call := call)) g1 g2 PyProof.Rows.boot_divmod g3 g4 h2 (ha.l O _ h3)
          rw [O.fax.T] at this
          exact this
        · have := se_callB (pos := p) (p := by assumption) (W := W) (on_reprO O.ops) g1 g2 PyProof.Rows.boot_repr g3 g4 h2 (ha.l O _ h3)
          rw [O.fax.T] at this
          exact this
        · have := se_callT (pos := p) (p := by assumption) (W := W) (on_listc (G := G) (call := call) O.ops.K) g1 g2 PyProof.Rows.boot_list g3 g4 h2 (ha.l O _ h3)
          rw [O.fax.T] at this
          exact this
theorem blt_kw (o : Blt) (l : C) : (chk A (.blt o l)).kw = fun _ _ => false := by
  cases o with
  | isi ts =>
    match ts with
    | [] => rfl
    | _ :: _ :: _ => rfl
    | [t] =>
      cases l with
      | cons b l =>
        cases l with
        | nil => rfl
        | _ => rfl
      | _ => rfl
  | _ => rfl
theorem blt_j (o : Blt) (l : C) : (chk A (.blt o l)).j = fun _ _ => false := by
  cases o with
  | isi ts =>
    match ts with
    | [] => rfl
    | _ :: _ :: _ => rfl
    | [t] =>
      cases l with
      | cons b l =>
        cases l with
        | nil => rfl
        | _ => rfl
      | _ => rfl
  | _ => rfl
theorem mth_j (m : Mth) (a l : C) : (chk A (.mth m a l)).j = fun _ _ => false := by
  cases l with
  | cons b l =>
    cases l with
    | nil => rfl
    | _ => rfl
  | _ => rfl
theorem mth_kw (m : Mth) (a l : C) : (chk A (.mth m a l)).kw = fun _ _ => false := by
  cases l with
  | cons b l =>
    cases l with
    | nil => rfl
    | _ => rfl
  | _ => rfl
theorem named_of {ks : List Keyword} {ns : List Str} (h : ks.map (·.arg) = ns.map some) : ks.all (·.arg.isSome) = true := by
  rw [List.all_eq_true]
  intro z hz
  have : z.arg ∈ ks.map (·.arg) := List.mem_map.mpr ⟨z, hz, rfl⟩
  rw [h] at this
  obtain ⟨y, _, e⟩ := List.mem_map.mp this
  rw [← e]; rfl
/-- what the test tells of keywords -/
structure Snk (A : Stc) (c : C) : Prop where
  k : ∀ {G : Rt} {fa : Nat → Addr} {call : Calls} {k : Nat} {Γ : Gm} {X : Cx} {W : WX}, Okx A G fa call k Γ X → ∀ ks, (chk A c).kw Γ ks = true → PK X ks (tL G W (den A.T call call c).l)
theorem snk_of : ∀ c : C, (∀ a : C, sizeOf a < sizeOf c → Snd A a) → Snk A c
  | .nil, _ => ⟨fun {G fa call k Γ X W} O ks h => by
      cases ks with
      | nil => exact spk_nil
      | cons _ _ => cases h⟩
  | .cons a l, H => ⟨fun {G fa call k Γ X W} O ks h => by
      cases ks with
      | nil => cases h
      | cons q r =>
        obtain ⟨nm, E, kp⟩ := q
        obtain ⟨h1, h2⟩ := and2 h
        exact spk_cons ((H a (by simp; omega)).e O E h1) ((snk_of l fun b hb => H b (by simp; omega)).k O r h2)⟩
  | .v i, _ => ⟨fun O ks h => by cases h⟩
  | .k p, _ => ⟨fun O ks h => by cases h⟩
  | .g n, _ => ⟨fun O ks h => by cases h⟩
  | .bin o a b, _ => ⟨fun O ks h => by cases h⟩
  | .neg a, _ => ⟨fun O ks h => by cases h⟩
  | .cmp o a b, _ => ⟨fun O ks h => by cases h⟩
  | .chain o o' a b c, _ => ⟨fun O ks h => by cases h⟩
  | .and a b, _ => ⟨fun O ks h => by cases h⟩
  | .or a b, _ => ⟨fun O ks h => by cases h⟩
  | .not a, _ => ⟨fun O ks h => by cases h⟩
  | .ite t a b, _ => ⟨fun O ks h => by cases h⟩
  | .star a l, _ => ⟨fun O ks h => by cases h⟩
  | .tup l, _ => ⟨fun O ks h => by cases h⟩
  | .lst l, _ => ⟨fun O ks h => by cases h⟩
  | .lstc l, _ => ⟨fun O ks h => by cases h⟩
  | .ix a b, _ => ⟨fun O ks h => by cases h⟩
  | .sl a b c, _ => ⟨fun O ks h => by cases h⟩
  | .rev a, _ => ⟨fun O ks h => by cases h⟩
  | .sset a, _ => ⟨fun O ks h => by cases h⟩
  | .lrange t l, _ => ⟨fun O ks h => by cases h⟩
  | .makeK j c l kl, _ => ⟨fun O ks h => by cases h⟩
  | .dict ks l, _ => ⟨fun O ks h => by cases h⟩
  | .attr a n, _ => ⟨fun O ks h => by cases h⟩
  | .call f l perm, _ => ⟨fun O ks h => by cases h⟩
  | .make f l perm, _ => ⟨fun O ks h => by cases h⟩
  | .meth a n l perm, _ => ⟨fun O ks h => by cases h⟩
  | .cmeth f n l perm, _ => ⟨fun O ks h => by cases h⟩
  | .callK j l kl, _ => ⟨fun O ks h => by cases h⟩
  | .methK a n j l kl, _ => ⟨fun O ks h => by cases h⟩
  | .kd n a, _ => ⟨fun O ks h => by cases h⟩
  | .fstr l, _ => ⟨fun O ks h => by cases h⟩
  | .fmt l, _ => ⟨fun O ks h => by cases h⟩
  | .range l, _ => ⟨fun O ks h => by cases h⟩
  | .enum a, _ => ⟨fun O ks h => by cases h⟩
  | .zip a b, _ => ⟨fun O ks h => by cases h⟩
  | .comp own it tg cond elt, _ => ⟨fun O ks h => by cases h⟩
  | .comp2 _ _ _ _ _ _ _ _ _, _ => ⟨fun O ks h => by cases h⟩
  | .dcomp _ _ _ _ _, _ => ⟨fun O ks h => by cases h⟩
  | .freeze a, _ => ⟨fun O ks h => by cases h⟩
  | .seq a b, _ => ⟨fun O ks h => by cases h⟩
  | .pass, _ => ⟨fun O ks h => by cases h⟩
  | .set a b, _ => ⟨fun O ks h => by cases h⟩
  | .ret a, _ => ⟨fun O ks h => by cases h⟩
  | .expr a, _ => ⟨fun O ks h => by cases h⟩
  | .iff t a b, _ => ⟨fun O ks h => by cases h⟩
  | .for_ a b c, _ => ⟨fun O ks h => by cases h⟩
  | .while_ a b, _ => ⟨fun O ks h => by cases h⟩
  | .brk, _ => ⟨fun O ks h => by cases h⟩
  | .cont, _ => ⟨fun O ks h => by cases h⟩
  | .raise a, _ => ⟨fun O ks h => by cases h⟩
  | .blt o l, _ => ⟨fun {G fa call k Γ X W} O ks h => by
      rcases blt_kw (A := A) o l with e
      rw [e] at h; cases h⟩
  | .mth m a l, _ => ⟨fun {G fa call k Γ X W} O ks h => by
      rcases mth_kw (A := A) m a l with e
      rw [e] at h; cases h⟩
/-- a joined text's parts, each judged by its own term -/
def elemsC : C → List C
  | .cons a l => a :: elemsC l
  | _ => []
structure Snj (A : Stc) (c : C) : Prop where
  j : ∀ {G : Rt} {fa : Nat → Addr} {call : Calls} {k : Nat} {Γ : Gm} {X : Cx} {W : WX}, Okx A G fa call k Γ X → ∀ es, (chk A c).j Γ es = true → PJ X es ((elemsC c).map fun c => tE G W (den A.T call call c).e)
  r : ∀ {G : Rt} {call : Calls} {W : WX} (Γ : Gm) (es : List Expr), (chk A c).j Γ es = true → ∀ (acc : List Nat) (σ : Slots) (H : Hp) (Q : Str → Hp → Prop) (F : Hp) (ρ : List Addr) (e : Env) (S : Store), SR G F ρ H S → rE G F ρ e σ →
    Post G F ρ H ((den A.T call call c).j acc e S) (fun _ _ x v => v = V.str (sT x)) (fun v H' => ∃ x, v = V.str x ∧ Q x H') (fun cls d H' => W cls d σ H') → tJs ((elemsC c).map fun c => tE G W (den A.T call call c).e) (sT acc) σ H Q
theorem snj_of : ∀ c : C, (∀ a : C, sizeOf a < sizeOf c → Snd A a) → Snj A c
  | .nil, _ => ⟨fun O es h => by
      cases es with
      | nil => exact .nil
      | cons _ _ => exact (Bool.false_ne_true h).elim, fun Γ es h acc σ H Q F ρ e S hS hE hP => by
      obtain ⟨x, hx, q⟩ := hP F ρ H (V.str (sT acc)) .refl hS rfl
      injection hx with hx
      show Q (sT acc) H
      rw [hx]; exact q⟩
  | .cons a l, HH => ⟨fun {G fa call k Γ X W} O es h => by
      cases es with
      | nil => cases h
      | cons E r =>
        obtain ⟨h1, h2⟩ := and2 h
        exact .cons ((HH a (by simp; omega)).e O E h1) ((snj_of l fun b hb => HH b (by simp; omega)).j O r h2), fun {G call W} Γ es h acc σ H Q F ρ e S hS hE hP => by
      cases es with
      | nil => cases h
      | cons E r =>
        obtain ⟨h1, h2⟩ := and2 h
        have ih := (snj_of l fun b hb => HH b (by simp; omega)).r (G := G) (call := call) (W := W) Γ r h2
        refine ⟨F, ρ, e, S, hS, hE, ?_⟩
        have hP : Post G F ρ H (((den A.T call call a).e e S).bind fun p S => match p with
          | .str t => if acc.length + t.length ≤ lim then (den A.T call call l).j (acc ++ t) e S else .bad
          | _ => .bad) (fun _ _ x v => v = V.str (sT x)) (fun v H' => ∃ x, v = V.str x ∧ Q x H') (fun cls d H' => W cls d σ H') := hP
        cases hx : (den A.T call call a).e e S with
        | bad => rw [hx] at hP; exact hP.elim
        | exc z S1 => rw [hx] at hP; exact hP
        | ok p S1 =>
          rw [hx] at hP
          intro F1 ρ1 H1 v x1 hS1 q1
          have hP1 := Post.mono x1 hP
          simp only [bind_ok] at hP1
          cases p with
          | str t =>
            obtain ⟨e1, k1⟩ := rv_str q1
            subst e1
            dsimp only at hP1
            by_cases hl : acc.length + t.length ≤ lim
            · rw [if_pos hl] at hP1
              refine ⟨sT t, rfl, ?_, ?_⟩
              · rw [← sT_app]
                show (acc ++ t).length ≤ sizeLine
                rw [List.length_append]
                exact Nat.le_trans hl lim_line
              · rw [← sT_app]
                exact ih (acc ++ t) σ H1 Q F1 ρ1 e S1 hS1 (rE_ext x1 hE) hP1
            · rw [if_neg hl] at hP1; exact hP1.elim
          | _ => exact (show False from hP1).elim⟩
  | .v i, _ => ⟨(fun O es h => by cases h), (fun Γ es h => by cases h)⟩
  | .k p, _ => ⟨(fun O es h => by cases h), (fun Γ es h => by cases h)⟩
  | .g n, _ => ⟨(fun O es h => by cases h), (fun Γ es h => by cases h)⟩
  | .bin o a b, _ => ⟨(fun O es h => by cases h), (fun Γ es h => by cases h)⟩
  | .neg a, _ => ⟨(fun O es h => by cases h), (fun Γ es h => by cases h)⟩
  | .cmp o a b, _ => ⟨(fun O es h => by cases h), (fun Γ es h => by cases h)⟩
  | .chain o o' a b c, _ => ⟨(fun O es h => by cases h), (fun Γ es h => by cases h)⟩
  | .and a b, _ => ⟨(fun O es h => by cases h), (fun Γ es h => by cases h)⟩
  | .or a b, _ => ⟨(fun O es h => by cases h), (fun Γ es h => by cases h)⟩
  | .not a, _ => ⟨(fun O es h => by cases h), (fun Γ es h => by cases h)⟩
  | .ite t a b, _ => ⟨(fun O es h => by cases h), (fun Γ es h => by cases h)⟩
  | .star a l, _ => ⟨(fun O es h => by cases h), (fun Γ es h => by cases h)⟩
  | .tup l, _ => ⟨(fun O es h => by cases h), (fun Γ es h => by cases h)⟩
  | .lst l, _ => ⟨(fun O es h => by cases h), (fun Γ es h => by cases h)⟩
  | .lstc l, _ => ⟨(fun O es h => by cases h), (fun Γ es h => by cases h)⟩
  | .ix a b, _ => ⟨(fun O es h => by cases h), (fun Γ es h => by cases h)⟩
  | .sl a b c, _ => ⟨(fun O es h => by cases h), (fun Γ es h => by cases h)⟩
  | .rev a, _ => ⟨(fun O es h => by cases h), (fun Γ es h => by cases h)⟩
  | .sset a, _ => ⟨(fun O es h => by cases h), (fun Γ es h => by cases h)⟩
  | .lrange t l, _ => ⟨(fun O es h => by cases h), (fun Γ es h => by cases h)⟩
  | .makeK j c l kl, _ => ⟨(fun O es h => by cases h), (fun Γ es h => by cases h)⟩
  | .dict ks l, _ => ⟨(fun O es h => by cases h), (fun Γ es h => by cases h)⟩
  | .attr a n, _ => ⟨(fun O es h => by cases h), (fun Γ es h => by cases h)⟩
  | .call f l perm, _ => ⟨(fun O es h => by cases h), (fun Γ es h => by cases h)⟩
  | .make f l perm, _ => ⟨(fun O es h => by cases h), (fun Γ es h => by cases h)⟩
  | .meth a n l perm, _ => ⟨(fun O es h => by cases h), (fun Γ es h => by cases h)⟩
  | .cmeth f n l perm, _ => ⟨(fun O es h => by cases h), (fun Γ es h => by cases h)⟩
  | .callK j l kl, _ => ⟨(fun O es h => by cases h), (fun Γ es h => by cases h)⟩
  | .methK a n j l kl, _ => ⟨(fun O es h => by cases h), (fun Γ es h => by cases h)⟩
  | .kd n a, _ => ⟨(fun O es h => by cases h), (fun Γ es h => by cases h)⟩
  | .fstr l, _ => ⟨(fun O es h => by cases h), (fun Γ es h => by cases h)⟩
  | .fmt l, _ => ⟨(fun O es h => by cases h), (fun Γ es h => by cases h)⟩
  | .range l, _ => ⟨(fun O es h => by cases h), (fun Γ es h => by cases h)⟩
  | .enum a, _ => ⟨(fun O es h => by cases h), (fun Γ es h => by cases h)⟩
  | .zip a b, _ => ⟨(fun O es h => by cases h), (fun Γ es h => by cases h)⟩
  | .comp own it tg cond elt, _ => ⟨(fun O es h => by cases h), (fun Γ es h => by cases h)⟩
  | .comp2 _ _ _ _ _ _ _ _ _, _ => ⟨(fun O es h => by cases h), (fun Γ es h => by cases h)⟩
  | .dcomp _ _ _ _ _, _ => ⟨(fun O es h => by cases h), (fun Γ es h => by cases h)⟩
  | .freeze a, _ => ⟨(fun O es h => by cases h), (fun Γ es h => by cases h)⟩
  | .seq a b, _ => ⟨(fun O es h => by cases h), (fun Γ es h => by cases h)⟩
  | .pass, _ => ⟨(fun O es h => by cases h), (fun Γ es h => by cases h)⟩
  | .set a b, _ => ⟨(fun O es h => by cases h), (fun Γ es h => by cases h)⟩
  | .ret a, _ => ⟨(fun O es h => by cases h), (fun Γ es h => by cases h)⟩
  | .expr a, _ => ⟨(fun O es h => by cases h), (fun Γ es h => by cases h)⟩
  | .iff t a b, _ => ⟨(fun O es h => by cases h), (fun Γ es h => by cases h)⟩
  | .for_ a b c, _ => ⟨(fun O es h => by cases h), (fun Γ es h => by cases h)⟩
  | .while_ a b, _ => ⟨(fun O es h => by cases h), (fun Γ es h => by cases h)⟩
  | .brk, _ => ⟨(fun O es h => by cases h), (fun Γ es h => by cases h)⟩
  | .cont, _ => ⟨(fun O es h => by cases h), (fun Γ es h => by cases h)⟩
  | .raise a, _ => ⟨(fun O es h => by cases h), (fun Γ es h => by cases h)⟩
  | .blt o l, _ => ⟨(fun O es h => by rw [blt_j] at h; cases h), (fun Γ es h => by rw [blt_j] at h; cases h)⟩
  | .mth m a l, _ => ⟨(fun O es h => by rw [mth_j] at h; cases h), (fun Γ es h => by rw [mth_j] at h; cases h)⟩
theorem snd_fmt (ha : Snd A a) : Snd A (.fmt a) := by
  refine snd_B rfl (fun {G fa call k Γ X W} O E h => ?_) (fun O E h => by cases h) (fun O op es p h => by cases h) fun _ => .inr rfl
  split at h
  · rename_i q p
    have e1 : (den A.T call call (.fmt a)).e = fun e S => ((den A.T call call a).e e S).bind fun p S => (textE G.T call p S).bind fun t S => .ok (.str t) S := by
      funext e S
      rw [O.fax.T]
      rfl
    rw [e1]
    exact se_fmt O.ops (fun c kl hk => ⟨(O.ops.eqs c kl hk).fm, (O.ops.eqs c kl hk).ob⟩) (ha.e O _ h)
  · cases h
theorem snd_fstr (hj : Snj A a) : Snd A (.fstr a) := by
  have key : ∀ {G : Rt} {fa : Nat → Addr} {call : Calls} {k : Nat} {Γ : Gm} {X : Cx} {W : WX}, Okx A G fa call k Γ X → ∀ es, (chk A a).j Γ es = true → ∀ σ H Q, tE G W (den A.T call call (.fstr a)).e σ H Q → tJs ((elemsC a).map fun c => tE G W (den A.T call call c).e) Str.empty σ H fun out H1 => Q (.str out) H1 := fun {G fa call k Γ X W} O es h σ H Q ⟨F, ρ, e, S, hS, hE, hP⟩ => by
    refine hj.r (G := G) (call := call) (W := W) Γ es h [] σ H (fun out H1 => Q (.str out) H1) F ρ e S hS hE ?_
    have hP : Post G F ρ H (((den A.T call call a).j [] e S).bind fun x S => if okS x = true then R.ok (PV.str x) S else .bad) (rv G) Q (fun cls d H' => W cls d σ H') := hP
    cases hx : (den A.T call call a).j [] e S with
    | bad => rw [hx] at hP; exact hP.elim
    | exc z S1 => rw [hx] at hP; exact hP
    | ok x S1 =>
      rw [hx] at hP
      simp only [bind_ok] at hP
      by_cases hk : okS x = true
      · rw [if_pos hk] at hP
        intro F' ρ' H' v x1 hS1 e1
        exact ⟨sT x, e1, hP F' ρ' H' (.str (sT x)) x1 hS1 (by unfold rv; exact ⟨rfl, hk⟩)⟩
      · rw [if_neg hk] at hP; exact hP.elim
  refine snd_E rfl (fun Γ E h => ?_) (fun {G fa call k Γ X W} O E h => ?_) fun _ => rfl
  · cases E <;> first | rfl | cases h
  · cases E <;> first | cases h | skip
    rename_i es p
    match es, h with
    | [], h => cases h
    | [E1], h =>
      have hJ := hj.j (W := W) O _ h
      have hk := key O (W := W) _ h
      generalize (elemsC a).map (fun c => tE G W (den A.T call call c).e) = ts at hJ hk
      cases hJ with
      | cons he r =>
        cases r
        refine ⟨fun pins s σ H Q I z => thn ((pe_joined1 he).run pins s σ H _ I (hk σ H Q z)) fun u s1 ⟨x, H1, I1, r1, y, ex, hy, q⟩ => ?_⟩
        subst ex
        have e0 : Str.empty ++ y = y := by
          have := (sT_app [] (uT y)).symm
          exact this
        refine ⟨.str y, H1, I1, r1, ?_⟩
        have q : Q (.str (Str.empty ++ y)) H1 := q
        rw [e0] at q
        exact q
    | E1 :: E2 :: r, h =>
      have hJ := hj.j (W := W) O _ h
      exact ⟨fun pins s σ H Q I z => (pe_joined hJ).run pins s σ H Q I (key O _ h σ H Q z)⟩
theorem snd_kd {n : Nat} (ha : Snd A a) : Snd A (.kd n a) := by
  refine snd_E rfl (fun Γ E h => ?_) (fun {G fa call k Γ X W} O E h => ?_) fun _ => rfl
  · cases E <;> first | rfl | cases h
  · cases E <;> first | cases h | skip
    rename_i fn r p
    cases fn <;> first | cases h | skip
    rename_i m mp
    obtain ⟨h, h4⟩ := and2 h
    obtain ⟨h, h3⟩ := and2 h
    obtain ⟨h1, h2⟩ := and2 h
    obtain ⟨g1, g2⟩ := O.gl h2
    obtain ⟨q, u, e1, e2, ko⟩ := O.fax.kd _ _ h3
    have e3 : (den A.T call call (.kd n a)).e = fun e S => ((den A.T call call a).e e S).bind fun r S => opt (kdD G.T n r) S := by
      funext e S
      rw [O.fax.T]
      rfl
    rw [e3]
    exact se_kd O.ops.K ko (by rw [O.fax.T]; exact e1) g1 e2 g2 (ha.e O _ h4) (plain_ix h1)
theorem snd_callK {j : Nat} (ha : Snd A a) (hb : Snk A b) : Snd A (.callK j a b) := by
  refine snd_E rfl (fun Γ E h => ?_) (fun {G fa call k Γ X W} O E h => ?_) fun _ => rfl
  · cases E <;> first | rfl | cases h
  · cases E <;> first | cases h | skip
    rename_i fn es ks p
    cases fn <;> first | cases h | skip
    rename_i m mp
    have h : (match A.T.kws[j]? with
        | some ki => modB Γ m && A.gf.contains (m, ki.f) && es.all nostar && (chk A a).l Γ es && (chk A b).kw Γ ks && decide (ks.map (·.arg) = ki.ks.map some)
        | none => false) = true := h
    cases hj : A.T.kws[j]? with
    | none => rw [hj] at h; cases h
    | some ki =>
      rw [hj] at h
      dsimp only at h
      obtain ⟨h, h6⟩ := and2 h
      obtain ⟨h, h5⟩ := and2 h
      obtain ⟨h, h4⟩ := and2 h
      obtain ⟨h, h3⟩ := and2 h
      obtain ⟨h1, h2⟩ := and2 h
      obtain ⟨g1, g2⟩ := O.gl h1
      obtain ⟨m1, m2⟩ := O.fax.fn _ _ h2
      have e1 : (den A.T call call (.callK j a b)).e = fun e S => ((den A.T call call a).l e S).bind fun ps S => ((den A.T call call b).l e S).bind fun qs S => callK G.T call j ps qs S := by
        funext e S
        rw [O.fax.T]
        rfl
      rw [e1]
      exact se_callK O.ops.K (by rw [O.fax.T]; exact hj) (O.fax.kw j ki hj) O.ops.fn (O.ops.room.mono (Nat.le_succ k)) O.ops.gd g1 m1 (by rw [O.ops.K]; exact m2) g2 h3 (ha.l O _ h4) (hb.k O _ h5) (of_decide_eq_true h6)
theorem snd_methK {n j : Nat} (ha : Snd A a) (hl : Snd A b) (hb : Snk A c) : Snd A (.methK a n j b c) := by
  refine snd_E rfl (fun Γ E h => ?_) (fun {G fa call k Γ X W} O E h => ?_) fun _ => rfl
  · cases E <;> first | rfl | cases h
  · cases E <;> first | cases h | skip
    rename_i fn es ks p
    cases fn <;> first | cases h | skip
    rename_i o m ap
    have h : (match A.T.kws[j]? with
        | some ki => decide (m = A.nm n) && noCall0 o && es.all nostar && decide (es.length + ks.length < 29) && lnB ap p && (chk A a).e Γ o && (chk A b).l Γ es && (chk A c).kw Γ ks && decide (ks.map (·.arg) = ki.ks.map some)
        | none => false) = true := h
    cases hj : A.T.kws[j]? with
    | none => rw [hj] at h; cases h
    | some ki =>
      rw [hj] at h
      dsimp only at h
      obtain ⟨h, h9⟩ := and2 h
      obtain ⟨h, h8⟩ := and2 h
      obtain ⟨h, h7⟩ := and2 h
      obtain ⟨h, h6⟩ := and2 h
      obtain ⟨h, h5⟩ := and2 h
      obtain ⟨h, h4⟩ := and2 h
      obtain ⟨h, h3⟩ := and2 h
      obtain ⟨h1, h2⟩ := and2 h
      have e1 := of_decide_eq_true h1
      have hks := of_decide_eq_true h9
      rw [e1, ← O.fax.nm n]
      have e1 : (den A.T call call (.methK a n j b c)).e = fun e S => ((den A.T call call a).e e S).bind fun p S => (opt (methF G.T p n S) S).bind fun f S => if isK G.T j f then ((den A.T call call b).l e S).bind fun ps S => ((den A.T call call c).l e S).bind fun qs S => callK G.T call j (p :: ps) qs S else .bad := by
        funext e S
        rw [O.fax.T]
        rfl
      rw [e1]
      exact se_methK O.ops.K O.ops.cls (by rw [O.fax.T]; exact hj) (O.fax.kw j ki hj) O.ops.fn (O.ops.room.mono (Nat.le_succ k)) O.ops.gd (ha.e O _ h6) h3 (hl.l O _ h7) (hb.k O _ h8) hks (ht_ofK (base_no h2) h3 (named_of hks) (of_decide_eq_true h4) h5)
/-- the methods that are served, with one argument -/
theorem snd_mth {m : Mth} (ha : Snd A a) (hb : Snd A b) : Snd A (.mth m a (.cons b .nil)) := by
  refine snd_E rfl (fun Γ E h => ?_) (fun {G fa call k Γ X W} O E h => ?_) fun _ => rfl
  · cases E <;> first | rfl | cases h
  · cases E <;> first | cases h | skip
    rename_i fn es ks p
    cases fn <;> first | cases h | skip
    rename_i o nm ap
    match es, ks, h with
    | [q], [], h =>
      obtain ⟨h, h6⟩ := and2 h
      obtain ⟨h, h5⟩ := and2 h
      obtain ⟨h, h4⟩ := and2 h
      obtain ⟨h, h3⟩ := and2 h
      obtain ⟨h1, h2⟩ := and2 h
      cases m <;> first | cases h1 | skip
      · have e1 := of_decide_eq_true h1
        subst e1
        exact se_join O.ops.K (ha.e O _ h5) (hb.e O _ h6) h3 (base_no h2) h4
      · have e1 := of_decide_eq_true h1
        subst e1
        exact se_split (ha.e O _ h5) (hb.e O _ h6) h3 (base_no h2) h4
      · have e1 := of_decide_eq_true h1
        subst e1
        exact se_count (ha.e O _ h5) (hb.e O _ h6) h3 (base_no h2) h4
      · have e1 := of_decide_eq_true h1
        subst e1
        exact se_starts (ha.e O _ h5) (hb.e O _ h6) h3 (base_no h2) h4
      · have e1 := of_decide_eq_true h1
        subst e1
        exact se_append (ha.e O _ h5) (hb.e O _ h6) h3 (base_no h2) h4
      · have e1 := of_decide_eq_true h1
        subst e1
        exact se_extend (ha.e O _ h5) (hb.e O _ h6) h3 (base_no h2) h4
      · have e1 := of_decide_eq_true h1
        subst e1
        exact se_pop (ha.e O _ h5) (hb.e O _ h6) h3 (base_no h2) h4
    | [], _, h => cases h
    | _ :: _ :: _, _, h => cases h
    | [_], _ :: _, h => cases h
/-! ### what is walked -/
theorem len_cons {G : Rt} {X : Cx} {l : C} {call : Calls} : ∀ {l : C} {Γ : Gm} {es : List Expr}, es.all nostar = true → (chk A l).l Γ es = true → ∀ e S ps S', (den A.T call call l).l e S = .ok ps S' → ps.length = es.length
  | .nil, Γ, es, _, h, e, S, ps, S', hp => by
    cases es with
    | nil => cases hp; rfl
    | cons _ _ => cases h
  | .cons a l, Γ, es, hs, h, e, S, ps, S', hp => by
    cases es with
    | nil => cases h
    | cons E r =>
      obtain ⟨h, h3⟩ := and2 h
      have hs' := and2 (List.all_cons ▸ hs)
      have hp : (((den A.T call call a).e e S).bind fun p S => ((den A.T call call l).l e S).bind fun ps S => R.ok (p :: ps) S) = .ok ps S' := hp
      cases hx : (den A.T call call a).e e S with
      | bad => rw [hx] at hp; cases hp
      | exc z S1 => rw [hx] at hp; cases hp
      | ok p S1 =>
        rw [hx] at hp
        simp only [bind_ok] at hp
        cases hy : (den A.T call call l).l e S1 with
        | bad => rw [hy] at hp; cases hp
        | exc z S1 => rw [hy] at hp; cases hp
        | ok qs S2 =>
          rw [hy] at hp
          cases hp
          show qs.length + 1 = r.length + 1
          rw [len_cons (G := G) (X := X) (l := l) hs'.2 h3 e S1 qs _ hy]
  | .star a l, Γ, es, hs, h, e, S, ps, S', hp => by
    cases es with
    | nil => cases h
    | cons E r =>
      cases E <;> first | cases h | skip
      cases hs
  | .v _, _, _, _, h, _, _, _, _, _ => by cases h
  | .k _, _, _, _, h, _, _, _, _, _ => by cases h
  | .g _, _, _, _, h, _, _, _, _, _ => by cases h
  | .bin _ _ _, _, _, _, h, _, _, _, _, _ => by cases h
  | .neg _, _, _, _, h, _, _, _, _, _ => by cases h
  | .cmp _ _ _, _, _, _, h, _, _, _, _, _ => by cases h
  | .chain _ _ _ _ _, _, _, _, h, _, _, _, _, _ => by cases h
  | .and _ _, _, _, _, h, _, _, _, _, _ => by cases h
  | .or _ _, _, _, _, h, _, _, _, _, _ => by cases h
  | .not _, _, _, _, h, _, _, _, _, _ => by cases h
  | .ite _ _ _, _, _, _, h, _, _, _, _, _ => by cases h
  | .tup _, _, _, _, h, _, _, _, _, _ => by cases h
  | .lst _, _, _, _, h, _, _, _, _, _ => by cases h
  | .lstc _, _, _, _, h, _, _, _, _, _ => by cases h
  | .ix _ _, _, _, _, h, _, _, _, _, _ => by cases h
  | .sl _ _ _, _, _, _, h, _, _, _, _, _ => by cases h
  | .rev _, _, _, _, h, _, _, _, _, _ => by cases h
  | .sset _, _, _, _, h, _, _, _, _, _ => by cases h
  | .lrange _ _, _, _, _, h, _, _, _, _, _ => by cases h
  | .makeK _ _ _ _, _, _, _, h, _, _, _, _, _ => by cases h
  | .dict _ _, _, _, _, h, _, _, _, _, _ => by cases h
  | .attr _ _, _, _, _, h, _, _, _, _, _ => by cases h
  | .call _ _ _, _, _, _, h, _, _, _, _, _ => by cases h
  | .make _ _ _, _, _, _, h, _, _, _, _, _ => by cases h
  | .meth _ _ _ _, _, _, _, h, _, _, _, _, _ => by cases h
  | .cmeth _ _ _ _, _, _, _, h, _, _, _, _, _ => by cases h
  | .blt o a, _, _, _, h, _, _, _, _, _ => by
    exfalso
    revert h
    cases o with
    | isi ts =>
      match ts with
      | [] => intro h; cases h
      | _ :: _ :: _ => intro h; cases h
      | [t] =>
        cases a with
        | cons b l => cases l <;> (intro h; cases h)
        | _ => intro h; cases h
    | _ => intro h; cases h
  | .mth m a l, _, _, _, h, _, _, _, _, _ => by
    exfalso
    revert h
    cases l with
    | cons b l => cases l <;> (intro h; cases h)
    | _ => intro h; cases h
  | .fstr _, _, _, _, h, _, _, _, _, _ => by cases h
  | .range _, _, _, _, h, _, _, _, _, _ => by cases h
  | .enum _, _, _, _, h, _, _, _, _, _ => by cases h
  | .zip _ _, _, _, _, h, _, _, _, _, _ => by cases h
  | .comp _ _ _ _ _, _, _, _, h, _, _, _, _, _ => by cases h
  | .comp2 _ _ _ _ _ _ _ _ _, _, _, _, h, _, _, _, _, _ => by cases h
  | .dcomp _ _ _ _ _, _, _, _, h, _, _, _, _, _ => by cases h
  | .freeze _, _, _, _, h, _, _, _, _, _ => by cases h
  | .seq _ _, _, _, _, h, _, _, _, _, _ => by cases h
  | .pass, _, _, _, h, _, _, _, _, _ => by cases h
  | .set _ _, _, _, _, h, _, _, _, _, _ => by cases h
  | .ret _, _, _, _, h, _, _, _, _, _ => by cases h
  | .expr _, _, _, _, h, _, _, _, _, _ => by cases h
  | .iff _ _ _, _, _, _, h, _, _, _, _, _ => by cases h
  | .for_ _ _ _, _, _, _, h, _, _, _, _, _ => by cases h
  | .while_ _ _, _, _, _, h, _, _, _, _, _ => by cases h
  | .brk, _, _, _, h, _, _, _, _, _ => by cases h
  | .cont, _, _, _, h, _, _, _, _, _ => by cases h
  | .raise _, _, _, _, h, _, _, _, _, _ => by cases h
theorem snd_I {f : Gm → Expr → Expr → Bool} (hc : chk A c = { i := f }) (hi : ∀ {G : Rt} {fa : Nat → Addr} {call : Calls} {k : Nat} {Γ : Gm} {X : Cx} {W : WX}, Okx A G fa call k Γ X → ∀ T E, f Γ T E = true → PI X T E (tI G W (den A.T call call c).i)) : Snd A c where
  e := fun O E h => by rw [hc] at h; cases h
  b := fun O E h => by rw [hc] at h; cases h
  bw := fun O op es p h => by rw [hc] at h; cases h
  l := fun O es h => by rw [hc] at h; cases h
  w := fun O es h => by rw [hc] at h; cases h
  tp := fun O es h => by rw [hc] at h; cases h
  t := fun O E h => by rw [hc] at h; cases h
  ft := fun O E h => by rw [hc] at h; cases h
  i := fun O T E h => hi O T E (by rw [hc] at h; exact h)
theorem snd_range (ha : Snd A a) : Snd A (.range a) := by
  refine snd_I rfl fun {G fa call k Γ X W} O T E h => ?_
  cases E <;> first | cases h | skip
  rename_i fn es ks p
  cases fn <;> first | cases h | skip
  cases ks with
  | cons _ _ => cases h
  | nil =>
    obtain ⟨h, h5⟩ := and2 h
    obtain ⟨h, h4⟩ := and2 h
    obtain ⟨h, h3⟩ := and2 h
    obtain ⟨h1, h2⟩ := and2 h
    obtain ⟨e1, g1, g2, g3, g4⟩ := O.blt h1
    subst e1
    have hl := len_cons (G := G) (X := X) (call := call) (l := a) h2 h5
    match es, h2, h3, h4, h5, hl with
    | [q], h2, _, _, h5, hl => exact si_range1 g1 g2 (and2 (List.all_cons ▸ h2)).1 (ha.l O _ h5) hl
    | [q, r], h2, _, _, h5, hl =>
      have h6 := and2 (List.all_cons ▸ h2)
      exact si_range2 g1 g2 h6.1 (and2 (List.all_cons ▸ h6.2)).1 (ha.l O _ h5) hl
    | [q, r, u], h2, _, _, h5, hl =>
      have h6 := and2 (List.all_cons ▸ h2)
      have h7 := and2 (List.all_cons ▸ h6.2)
      exact si_range3 g1 g2 h6.1 h7.1 (and2 (List.all_cons ▸ h7.2)).1 (ha.l O _ h5) hl
    | [], _, h3, _, _, _ => cases h3
    | _ :: _ :: _ :: _ :: _, _, _, h4, _, _ =>
      have := of_decide_eq_true h4
      simp only [List.length_cons] at this
      omega
theorem snd_rev (ha : Snd A a) : Snd A (.rev a) := by
  refine snd_E rfl (fun Γ E h => ?_) (fun {G fa call k Γ X W} O E h => ?_) fun _ => rfl
  · cases E <;> first | rfl | cases h
  · cases E <;> first | cases h | skip
    rename_i l sl p
    cases sl <;> first | cases h | skip
    rename_i lo hi st p3
    cases lo <;> first | cases h | skip
    cases hi <;> first | cases h | skip
    cases st with
    | none => cases h
    | some st =>
      cases st <;> first | cases h | skip
      rename_i op q p2
      cases op <;> first | cases h | skip
      cases q <;> first | cases h | skip
      rename_i cst kx p1
      cases cst <;> first | cases h | skip
      rename_i n
      obtain ⟨h1, h2⟩ := and2 h
      have e1 := of_decide_eq_true h1
      subst e1
      exact se_rev O.ops.K (ha.e O _ h2)
theorem snd_sset (ha : Snd A a) : Snd A (.sset a) := by
  refine snd_E rfl (fun Γ E h => ?_) (fun {G fa call k Γ X W} O E h => ?_) fun _ => rfl
  · cases E <;> first | rfl | cases h
  · cases E <;> first | cases h | skip
    rename_i fn es ks p
    cases fn <;> first | cases h | skip
    rename_i m mp
    match es, ks, h with
    | [.Call (.Name m2 mp2) [q] [] p2], [], h =>
      obtain ⟨h, h4⟩ := and2 h
      obtain ⟨h, h3⟩ := and2 h
      obtain ⟨h1, h2⟩ := and2 h
      obtain ⟨e1, g1, g2, _, _⟩ := O.blt h1
      obtain ⟨e2, g3, g4, _, _⟩ := O.blt h2
      subst e1; subst e2
      exact se_sset O.calm O.ops.K g1 g2 g3 g4 h3 (ha.e O _ h4)
theorem snd_lrange {t : Bool} (ha : Snd A a) : Snd A (.lrange t a) := by
  refine snd_E rfl (fun Γ E h => ?_) (fun {G fa call k Γ X W} O E h => ?_) fun _ => rfl
  · cases E <;> first | rfl | cases h
  · cases E <;> first | cases h | skip
    rename_i fn es ks p
    cases fn <;> first | cases h | skip
    rename_i m mp
    match es, ks, h with
    | [.Call (.Name m2 mp2) (q :: r) [] p2], [], h =>
      obtain ⟨h, h5⟩ := and2 h
      obtain ⟨h, h4⟩ := and2 h
      obtain ⟨h, h3⟩ := and2 h
      obtain ⟨h1, h2⟩ := and2 h
      obtain ⟨e1, g1, g2, _, _⟩ := O.blt h1
      obtain ⟨e2, g3, g4, _, _⟩ := O.blt h2
      subst e2
      have hl := len_cons (G := G) (X := X) (call := call) (l := a) h3 h5
      refine se_lrange O.calm e1 g1 g2 g3 g4 h3 (ha.l O _ h5) fun e S ps S' z => ?_
      have z1 := hl e S ps S' z
      have z2 := of_decide_eq_true h4
      rw [List.length_cons] at z1 z2
      omega
theorem snd_makeK {j f : Nat} (ha : Snd A a) (hb : Snk A b) : Snd A (.makeK j f a b) := by
  have he : ∀ {G : Rt} {fa : Nat → Addr} {call : Calls} {k : Nat} {Γ : Gm} {X : Cx} {W : WX}, Okx A G fa call k Γ X → ∀ E, (chk A (.makeK j f a b)).e Γ E = true → PE X E (tE G W (den A.T call call (.makeK j f a b)).e) := fun {G fa call k Γ X W} O E h => by
    cases E <;> first | cases h | skip
    rename_i fn es ks p
    cases fn <;> first | cases h | skip
    rename_i m mp
    have h : (match A.T.kws[j]? with
        | some ki => modB Γ m && A.gc.contains (m, f) && es.all nostar && (chk A a).l Γ es && (chk A b).kw Γ ks && decide (ks.map (·.arg) = ki.ks.map some) && (A.T.cls[f]?).isSome
        | none => false) = true := h
    cases hj : A.T.kws[j]? with
    | none => rw [hj] at h; cases h
    | some ki =>
      rw [hj] at h
      dsimp only at h
      obtain ⟨h, h7⟩ := and2 h
      obtain ⟨h, h6⟩ := and2 h
      obtain ⟨h, h5⟩ := and2 h
      obtain ⟨h, h4⟩ := and2 h
      obtain ⟨h, h3⟩ := and2 h
      obtain ⟨h1, h2⟩ := and2 h
      obtain ⟨g1, g2⟩ := O.gl h1
      have m1 := O.fax.cls _ _ h2
      obtain ⟨kl, hk⟩ := Option.isSome_iff_exists.mp h7
      rw [← O.fax.T] at hk
      have e1 : (den A.T call call (.makeK j f a b)).e = fun e S => ((den A.T call call a).l e S).bind fun ps S => ((den A.T call call b).l e S).bind fun qs S => makeK G.T call j f ps qs S := by
        funext e S
        rw [O.fax.T]
        rfl
      rw [e1]
      exact se_makeK O.ops.K (by rw [O.fax.T]; exact hj) (O.fax.kw j ki hj) hk (O.ops.cls f kl hk).made O.ops.fn O.ops.room O.ops.gd g1 m1 g2 h3 (ha.l O _ h4) (hb.k O _ h5) (of_decide_eq_true h6)
  exact
    { e := he
      b := fun O E h => by cases h
      bw := fun O op es p h => by cases h
      l := fun O es h => by cases h
      w := fun O es h => by cases h
      tp := fun O es h => by cases h
      t := fun O E h => by cases h
      ft := fun O E h => by cases h
      i := fun O T E h => by cases h }
theorem snd_enum (ha : Snd A a) : Snd A (.enum a) := by
  refine snd_I rfl fun {G fa call k Γ X W} O T E h => ?_
  cases T <;> first | cases h | skip
  cases E <;> first | cases h | skip
  rename_i fn es ks p
  cases fn <;> first | cases h | skip
  match es, ks, h with
  | [q], [], h =>
    obtain ⟨h, h3⟩ := and2 h
    obtain ⟨h1, h2⟩ := and2 h
    obtain ⟨e1, g1, g2, g3, g4⟩ := O.blt h1
    subst e1
    exact si_enum2 O.ops.K g1 g2 h2 (ha.e O _ h3)
  | [], _, h => cases h
  | _ :: _ :: _, _, h => cases h
  | [_], _ :: _, h => cases h
theorem snd_zip (ha : Snd A a) (hb : Snd A b) : Snd A (.zip a b) := by
  refine snd_I rfl fun {G fa call k Γ X W} O T E h => ?_
  cases T <;> first | cases h | skip
  cases E <;> first | cases h | skip
  rename_i fn es ks p
  cases fn <;> first | cases h | skip
  match es, ks, h with
  | [q, r], [], h =>
    obtain ⟨h, h5⟩ := and2 h
    obtain ⟨h, h4⟩ := and2 h
    obtain ⟨h, h3⟩ := and2 h
    obtain ⟨h1, h2⟩ := and2 h
    obtain ⟨e1, g1, g2, g3, g4⟩ := O.blt h1
    subst e1
    exact si_zip O.ops.K g1 g2 h2 h3 (ha.e O _ h4) (hb.e O _ h5)
  | [], _, h => cases h
  | [_], _, h => cases h
  | _ :: _ :: _ :: _, _, h => cases h
  | [_, _], _ :: _, h => cases h
end Ev
set_option Elab.async false
set_option linter.all false
set_option maxRecDepth 100000
set_option maxHeartbeats 1000000
/-! E25: what the test tells: targets, comprehensions, statements. -/
namespace Ev
open PySem L2
open PyProof.Rows hiding St

variable {A : Stc} {a b c d : C}
theorem blt_form (o : Blt) (a : C) : ∃ f, chk A (.blt o a) = chE f := by
  cases o with
  | isi ts =>
    match ts with
    | [] => exact ⟨_, rfl⟩
    | _ :: _ :: _ => exact ⟨_, rfl⟩
    | [t] =>
      cases a with
      | cons b l => cases l <;> exact ⟨_, rfl⟩
      | _ => exact ⟨_, rfl⟩
  | _ => exact ⟨_, rfl⟩
theorem mth_form (m : Mth) (a l : C) : (∃ b, l = .cons b .nil ∧ ∃ f, chk A (.mth m a l) = chE f) ∨ chk A (.mth m a l) = {} := by
  cases l with
  | cons b l => cases l <;> first | exact .inl ⟨b, rfl, _, rfl⟩ | exact .inr rfl
  | _ => exact .inr rfl
theorem each_len {env : PySem.Env} : ∀ {es : List Expr}, es.all nostar = true → (assignEach es env).length = es.length ∧ (assignEach es env).findIdx? (·.1) = none
  | [], _ => ⟨rfl, rfl⟩
  | E :: r, h => by
    have h' := and2 (List.all_cons ▸ h)
    obtain ⟨i1, i2⟩ := each_len (env := env) h'.2
    have e : assignEach (E :: r) env = (false, assign E env) :: assignEach r env := by
      cases E <;> first | rfl | cases h'.1
    rw [e]
    refine ⟨by simp [i1], ?_⟩
    rw [List.findIdx?_cons]
    simp [i2]
/-- targets in a row -/
structure Snt (A : Stc) (c : C) : Prop where
  ts : ∀ {G : Rt} {fa : Nat → Addr} {call : Calls} {k : Nat} {Γ : Gm} {X : Cx}, Okx A G fa call k Γ X → ∀ es, (chk A c).ts Γ es = true → PGs X es (tGs G (den A.T call call c).ts)
  tw : ∀ {G : Rt} {fa : Nat → Addr} {call : Calls} {k : Nat} {Γ : Gm} {X : Cx} {own : List Nat}, Okx A G fa call k Γ X → ∀ E, (chk A c).tw own Γ E = true → PG X E (tGw G own (den A.T call call c).t)
  tsw : ∀ {G : Rt} {fa : Nat → Addr} {call : Calls} {k : Nat} {Γ : Gm} {X : Cx} {own : List Nat}, Okx A G fa call k Γ X → ∀ es, (chk A c).tsw own Γ es = true → PGs X es (tGsw G own (den A.T call call c).ts)
  ln : ∀ {call : Calls} {Γ : Gm} {own : List Nat} {es : List Expr}, (chk A c).ts Γ es = true ∨ (chk A c).tsw own Γ es = true → ∀ vs e S, (∃ e' S', (den A.T call call c).ts vs e S = .ok e' S') → vs.length = es.length
/-- a term that is no target in a row -/
theorem snt_no (h1 : (chk A c).ts = fun _ _ => false) (h2 : (chk A c).tw = fun _ _ _ => false) (h3 : (chk A c).tsw = fun _ _ _ => false) : Snt A c where
  ts := fun O es h => by rw [h1] at h; cases h
  tw := fun O es h => by rw [h2] at h; cases h
  tsw := fun O es h => by rw [h3] at h; cases h
  ln := fun h => by
    rw [h1, h3] at h
    rcases h with h | h <;> cases h
theorem snt_v {i : Nat} : Snt A (.v i) where
  ts := fun O es h => by cases h
  tw := fun {G fa call k Γ X own} O E h => by
    cases E <;> first | cases h | skip
    rename_i x p
    obtain ⟨h, h3⟩ := and2 h
    obtain ⟨h1, h2⟩ := and2 h
    rcases Bool.or_eq_true_iff.mp h2 with h2 | h2
    · have hl : X.env.scope.names.lookup x = some .local := by rw [O.sc]; exact loc_of h2
      exact sgw_name O.nd (O.nN h1) (.inl hl) (.inr hl) (by simpa using h3)
    · obtain ⟨h4, h5⟩ := and2 h2
      have hl : X.env.scope.names.lookup x = some .cell := by rw [O.sc]; exact cel_of h4
      exact sgw_name O.nd (O.nN h1) (.inr hl) (.inl (O.fnb x (cel_of h5))) (by simpa using h3)
  tsw := fun O es h => by cases h
  ln := fun h => by rcases h with h | h <;> cases h
theorem snt_nil : Snt A .nil where
  ts := fun O es h => by
    cases es with
    | nil => exact sgs_nil
    | cons _ _ => cases h
  tw := fun O E h => by cases h
  tsw := fun O es h => by
    cases es with
    | nil => exact sgsw_nil
    | cons _ _ => cases h
  ln := fun {call Γ own es} h vs e S hp => by
    obtain ⟨e', S', hp⟩ := hp
    have : es = [] := by
      cases es with
      | nil => rfl
      | cons _ _ => rcases h with h | h <;> cases h
    subst this
    cases vs with
    | nil => rfl
    | cons _ _ => cases hp
theorem snt_cons (ha : Snd A a) (ha' : Snt A a) (hb : Snt A b) : Snt A (.cons a b) where
  ts := fun {G fa call k Γ X} O es h => by
    cases es with
    | nil => cases h
    | cons E r =>
      obtain ⟨h, h3⟩ := and2 h
      obtain ⟨h1, h2⟩ := and2 h
      exact sgs_cons h1 (ha.t (W := fun _ _ _ _ => True) O _ h2) (hb.ts O _ h3)
  tw := fun O E h => by cases h
  tsw := fun O es h => by
    cases es with
    | nil => cases h
    | cons E r =>
      obtain ⟨h, h3⟩ := and2 h
      obtain ⟨h1, h2⟩ := and2 h
      exact sgsw_cons h1 (ha'.tw O _ h2) (hb.tsw O _ h3)
  ln := fun {call Γ own es} h vs e S hp => by
    obtain ⟨e', S', hp⟩ := hp
    cases es with
    | nil => rcases h with h | h <;> cases h
    | cons E r =>
      have h' : (chk A b).ts Γ r = true ∨ (chk A b).tsw own Γ r = true := by
        rcases h with h | h
        · exact .inl (and2 h).2
        · exact .inr (and2 h).2
      cases vs with
      | nil => cases hp
      | cons v vr =>
        have hp : (((den A.T call call a).t v e S).bind fun e S => (den A.T call call b).ts vr e S) = .ok e' S' := hp
        cases hx : (den A.T call call a).t v e S with
        | bad => rw [hx] at hp; cases hp
        | exc z S1 => rw [hx] at hp; cases hp
        | ok e1 S1 =>
          rw [hx] at hp
          show vr.length + 1 = r.length + 1
          rw [hb.ln h' vr e1 S1 ⟨e', S', hp⟩]
theorem snt_tup (ha : Snt A a) : Snt A (.tup a) where
  ts := fun O es h => by cases h
  tw := fun {G fa call k Γ X own} O E h => by
    cases E <;> first | cases h | skip
    rename_i es kk p
    obtain ⟨h1, h2⟩ := and2 h
    obtain ⟨n1, n2⟩ := each_len (env := X.env) h2
    exact sgw_tup (y := (den A.T call call a).ts) O.ops.K O.calm (ha.tsw O _ h1) n1 n2 fun vs e S hp => ha.ln (.inr h1) vs e S hp
  tsw := fun O es h => by cases h
  ln := fun h => by rcases h with h | h <;> cases h
theorem snd_tup (ha : Snd A a) (ha' : Snt A a) : Snd A (.tup a) where
  e := fun {G fa call k Γ X W} O E h => by
    cases E <;> first | cases h | skip
    exact se_tup (ha.l O _ h)
  b := fun {G fa call k Γ X W} O E h => by
    cases E <;> first | cases h | skip
    exact pt_plain O.ops.K (se_tup (ha.l O _ h)) (tru_plain rfl)
  bw := fun O op es p h => by cases h
  l := fun O es h => by cases h
  w := fun O es h => by cases h
  tp := fun {G fa call k Γ X W} O es h => ha.l O es h
  t := fun {G fa call k Γ X} W O E h => by
    cases E <;> first | cases h | skip
    rename_i es kk p
    obtain ⟨h1, h2⟩ := and2 h
    obtain ⟨n1, n2⟩ := each_len (env := X.env) h2
    exact sg_tup (y := (den A.T call call a).ts) O.ops.K O.calm (ha'.ts O _ h1) n1 n2 fun vs e S hp => ha'.ln (own := []) (.inl h1) vs e S hp
  ft := fun O E h => by cases h
  i := fun {G fa call k Γ X W} O T E h => by
    cases E <;> first | cases h | skip
    exact si_exp O.ops.K (se_tup (ha.l O _ h))
/-! ### statements -/
structure Sns (A : Stc) (c : C) : Prop where
  lc : ∀ {G : Rt} {fa : Nat → Addr} {call : Calls} {k : Nat} {Γ : Gm} {X : Cx} {W : WX}, Okx A G fa call k Γ X → ∀ E1 gs scope q i y py sp, (chk A c).lc Γ (.ListComp E1 gs scope q) = true → X.N[i]? = some y → X.env.scope.names.lookup y = some .local →
    swapsWith (.ListComp E1 gs scope q) (some (.Name y py)) sp.line X.env = pure true → PS X (.Assign [.Name y py] (.ListComp E1 gs scope q) sp) (tS G W (asgE (den A.T call call c).e (nameT i)))
  o : ∀ {G : Rt} {fa : Nat → Addr} {call : Calls} {k : Nat} {Γ : Gm} {X : Cx} {W : WX}, Okx A G fa call k Γ X → ∀ st, (chk A c).o Γ st = true → PS X st (tS G W (den A.T call call c).s)
  s : ∀ {G : Rt} {fa : Nat → Addr} {call : Calls} {k : Nat} {Γ : Gm} {X : Cx} {W : WX}, Okx A G fa call k Γ X → ∀ b, (chk A c).s Γ b = true → PSs X b (tS G W (den A.T call call c).s)
theorem sns_no (h1 : (chk A c).lc = fun _ _ => false) (h2 : (chk A c).o = fun _ _ => false) (h3 : (chk A c).s = fun _ _ => false) : Sns A c where
  lc := fun O E1 gs scope q i y py sp h => by rw [h1] at h; cases h
  o := fun O st h => by rw [h2] at h; cases h
  s := fun O b h => by rw [h3] at h; cases h
theorem sns_O {f : Gm → Stmt → Bool} (hc : chk A c = chO f) (ho : ∀ {G : Rt} {fa : Nat → Addr} {call : Calls} {k : Nat} {Γ : Gm} {X : Cx} {W : WX}, Okx A G fa call k Γ X → ∀ st, f Γ st = true → PS X st (tS G W (den A.T call call c).s)) : Sns A c where
  lc := fun O E1 gs scope q i y py sp h => by rw [hc] at h; cases h
  o := fun O st h => ho O st (by rw [hc] at h; exact h)
  s := fun {G fa call k Γ X W} O b h => by
    rw [hc] at h
    match b, h with
    | [], h => cases h
    | [st], h => exact ss_one (ho O st h)
    | _ :: _ :: _, h => cases h
theorem sns_seq (ha : Sns A a) (hb : Sns A b) : Sns A (.seq a b) where
  lc := fun O E1 gs scope q i y py sp h => by cases h
  o := fun O st h => by cases h
  s := fun {G fa call k Γ X W} O b h => by
    match b, h with
    | [], h => cases h
    | [_], h => cases h
    | u :: v :: r, h =>
      obtain ⟨h1, h2⟩ := and2 h
      exact ss_cons (ha.o O _ h1) (hb.s O _ h2)
theorem sns_pass : Sns A .pass where
  lc := fun O E1 gs scope q i y py sp h => by cases h
  o := fun O st h => by
    cases st <;> first | cases h | skip
    exact ss_pass
  s := fun {G fa call k Γ X W} O b h => by
    match b, h with
    | [], h => exact ss_nil
    | [st], h =>
      cases st <;> first | cases h | skip
      exact ss_one ss_pass
    | st :: _ :: _, h => cases st <;> cases h
theorem sns_raise : Sns A (.raise a) where
  lc := fun O E1 gs scope q i y py sp h => by cases h
  o := fun O st h => ⟨fun pins s σ H D I ⟨F, ρ, e, S, hS, hE, hP⟩ => hP.elim⟩
  s := fun O b h => ⟨fun pins s σ H D I ⟨F, ρ, e, S, hS, hE, hP⟩ => hP.elim⟩
theorem sns_ret (ha : Snd A a) : Sns A (.ret a) := by
  refine sns_O rfl fun {G fa call k Γ X W} O st h => ?_
  cases st <;> first | cases h | skip
  rename_i v p
  cases v with
  | some E => exact ss_ret (ha.e O _ h)
  | none =>
    cases a <;> first | cases h | skip
    rename_i q
    cases q <;> first | cases h | skip
    exact ss_retN
theorem sns_expr (ha : Snd A a) : Sns A (.expr a) := by
  refine sns_O rfl fun {G fa call k Γ X W} O st h => ?_
  cases st <;> first | cases h | skip
  obtain ⟨h1, h2⟩ := and2 h
  exact ss_expr (ha.e O _ h2) (swap_no h1)
theorem sns_iff (hc : Snd A c) (ha : Sns A a) (hb : Sns A b) : Sns A (.iff c a b) := by
  refine sns_O rfl fun {G fa call k Γ X W} O st h => ?_
  cases st <;> first | cases h | skip
  obtain ⟨h, h3⟩ := and2 h
  obtain ⟨h1, h2⟩ := and2 h
  exact ss_if (hc.b O _ h1) (ha.s O _ h2) (hb.s O _ h3)
theorem sns_for (ha : Snd A a) (hb : Snd A b) (hc : Sns A c) : Sns A (.for_ a b c) := by
  refine sns_O rfl fun {G fa call k Γ X W} O st h => ?_
  cases st <;> first | cases h | skip
  rename_i T1 I1 u els p
  cases els with
  | cons _ _ => cases h
  | nil =>
    obtain ⟨h, h4⟩ := and2 h
    obtain ⟨h, h3⟩ := and2 h
    obtain ⟨h1, h2⟩ := and2 h
    exact ss_for O.own O.calm (hb.i O _ _ h2) (ha.t (W := fun _ _ _ _ => True) O _ h3) (hc.s O _ h4) (set_no h1)
theorem sns_while (ha : Snd A a) (hc : Sns A c) : Sns A (.while_ a c) := by
  refine sns_O rfl fun {G fa call k Γ X W} O st h => ?_
  cases st <;> first | cases h | skip
  rename_i E u els p
  cases els with
  | cons _ _ => cases h
  | nil =>
    obtain ⟨h1, h2⟩ := and2 h
    exact ss_while O.own (ha.b O _ h1) (hc.s O _ h2) fuelW
theorem sns_brk : Sns A .brk := by
  refine sns_O rfl fun {G fa call k Γ X W} O st h => ?_
  cases st <;> first | cases h | skip
  exact ss_break
theorem sns_cont : Sns A .cont := by
  refine sns_O rfl fun {G fa call k Γ X W} O st h => ?_
  cases st <;> first | cases h | skip
  exact ss_cont
end Ev
set_option Elab.async false
set_option linter.all false
set_option maxRecDepth 100000
set_option maxHeartbeats 1000000
/-! E26: what the test tells: comprehensions, assignments; all terms. -/
namespace Ev
open PySem L2
open PyProof.Rows hiding St

variable {A : Stc} {a b c d : C}
/-- the parts of a comprehension -/
structure LcP (A : Stc) (own : List Nat) (it tg cond elt : C) (Γ : Gm) (E1 : Expr) (gs : List Comprehension) (scope : Scope) (T1 I1 : Expr) (ifs : List Expr) : Prop where
  gs : gs = [⟨T1, I1, ifs, 0⟩]
  set : noSet I1 = true
  i : (chk A it).i Γ T1 I1 = true
  t : (chk A tg).tw own (Γ.inn scope) T1 = true
  c : (ifs = [] ∧ isTrueC cond = true) ∨ ∃ q, ifs = [q] ∧ (chk A cond).b (Γ.inn scope) q = true
  x : (chk A elt).e (Γ.inn scope) E1 = true
  ok : blkC Γ.N Γ.sc scope (own.map fun j => (Γ.N.getD j Str.empty, j)) = true
theorem lcp_of {own : List Nat} {it tg cond elt : C} {Γ : Gm} {E : Expr} (h : (chk A (.comp own it tg cond elt)).lc Γ E = true) : ∃ E1 gs scope p T1 I1 ifs, E = .ListComp E1 gs scope p ∧ LcP A own it tg cond elt Γ E1 gs scope T1 I1 ifs := by
  unfold chk at h
  dsimp only at h
  split at h
  · rename_i E1 T1 I1 ifs scope p
    obtain ⟨h, h7⟩ := and2 h
    obtain ⟨h, _⟩ := and2 h
    obtain ⟨h, h5⟩ := and2 h
    obtain ⟨h, h4⟩ := and2 h
    obtain ⟨h, h3⟩ := and2 h
    obtain ⟨h1, h2⟩ := and2 h
    refine ⟨E1, _, scope, p, T1, I1, ifs, rfl, rfl, h1, h2, h3, ?_, h5, h7⟩
    match ifs, h4 with
    | [], h4 => exact .inl ⟨rfl, h4⟩
    | [q], h4 => exact .inr ⟨q, rfl, h4⟩
    | _ :: _ :: _, h4 => cases h4
  · cases h
theorem own_map (N : List Str) (own : List Nat) : (own.map fun j => (N.getD j Str.empty, j)).map (·.2) = own := by
  rw [List.map_map]
  exact List.map_id _
theorem conds {G : Rt} {fa : Nat → Addr} {call : Calls} {k : Nat} {Γ : Gm} {X : Cx} {W : WX} {ifs : List Expr} (O : Okx A G fa call k Γ X) (hc : Snd A c) (h : (ifs = [] ∧ isTrueC c = true) ∨ ∃ q, ifs = [q] ∧ (chk A c).b Γ q = true) : PTs X ifs (tT G W (den A.T call call c).e) := by
  rcases h with ⟨rfl, h⟩ | ⟨q, rfl, h⟩
  · cases c <;> first | cases h | skip
    rename_i p
    cases p <;> first | cases h | skip
    rename_i b
    cases b <;> first | cases h | skip
    exact spts_nil
  · exact pts_one (hc.b O _ h)
theorem snd_comp {own : List Nat} (hi : Snd A a) (ht : Snt A b) (hc : Snd A c) (hx : Snd A d) : Snd A (.comp own a b c d) where
  e := fun {G fa call k Γ X W} O E h => by
    obtain ⟨E1, gs, scope, p, T1, I1, ifs, rfl, L⟩ := lcp_of h
    obtain ⟨rfl, h1, h2, h3, h4, h5, h6⟩ := L
    have ok : BlkOk X.N X.env.scope scope (own.map fun j => (Γ.N.getD j Str.empty, j)) := by rw [O.N, O.sc]; exact blkOk_by h6
    exact se_lc (W2 := W) O.calm O.nd (hi.i O _ _ h2) ok (own_map _ _) (fun s H C cl fp => ht.tw (O.inn scope s H C cl fp) _ h3) (fun s H C cl fp => conds (O.inn scope s H C cl fp) hc h4) (fun s H C cl fp => hx.e (O.inn scope s H C cl fp) _ h5) (set_no h1)
  b := fun {G fa call k Γ X W} O E h => by
    obtain ⟨E1, gs, scope, p, T1, I1, ifs, rfl, L⟩ := lcp_of (A := A) (own := own) (it := a) (tg := b) (cond := c) (elt := d) h
    obtain ⟨rfl, h1, h2, h3, h4, h5, h6⟩ := L
    have ok : BlkOk X.N X.env.scope scope (own.map fun j => (Γ.N.getD j Str.empty, j)) := by rw [O.N, O.sc]; exact blkOk_by h6
    exact pt_plain O.ops.K (se_lc (W2 := W) O.calm O.nd (hi.i O _ _ h2) ok (own_map _ _) (fun s H C cl fp => ht.tw (O.inn scope s H C cl fp) _ h3) (fun s H C cl fp => conds (O.inn scope s H C cl fp) hc h4) (fun s H C cl fp => hx.e (O.inn scope s H C cl fp) _ h5) (set_no h1)) (tru_plain rfl)
  bw := fun {G fa call k Γ X W} O op es p h => by
    obtain ⟨E1, gs, scope, p, T1, I1, ifs, e, L⟩ := lcp_of (A := A) (own := own) (it := a) (tg := b) (cond := c) (elt := d) (Γ := Γ) (E := .BoolOp op es p) h
    cases e
  l := fun O es h => by cases h
  w := fun O es h => by cases h
  tp := fun O es h => by cases h
  t := fun O E h => by cases h
  ft := fun O E h => by cases h
  i := fun {G fa call k Γ X W} O T E h => by
    obtain ⟨E1, gs, scope, p, T1, I1, ifs, rfl, L⟩ := lcp_of (A := A) (own := own) (it := a) (tg := b) (cond := c) (elt := d) h
    obtain ⟨rfl, h1, h2, h3, h4, h5, h6⟩ := L
    have ok : BlkOk X.N X.env.scope scope (own.map fun j => (Γ.N.getD j Str.empty, j)) := by rw [O.N, O.sc]; exact blkOk_by h6
    exact si_exp O.ops.K (se_lc (W2 := W) O.calm O.nd (hi.i O _ _ h2) ok (own_map _ _) (fun s H C cl fp => ht.tw (O.inn scope s H C cl fp) _ h3) (fun s H C cl fp => conds (O.inn scope s H C cl fp) hc h4) (fun s H C cl fp => hx.e (O.inn scope s H C cl fp) _ h5) (set_no h1))
/-- the parts of a comprehension of two walks -/
structure LcP2 (A : Stc) (own own2 : List Nat) (it tg cond it2 tg2 cond2 elt : C) (Γ : Gm) (E1 : Expr) (gs : List Comprehension) (scope : Scope) (T1 I1 T2 I2 : Expr) (ifs ifs2 : List Expr) : Prop where
  gs : gs = [⟨T1, I1, ifs, 0⟩, ⟨T2, I2, ifs2, 0⟩]
  set : noSet I1 = true
  i : (chk A it).i Γ T1 I1 = true
  t : (chk A tg).tw own (Γ.inn scope) T1 = true
  c : (ifs = [] ∧ isTrueC cond = true) ∨ ∃ q, ifs = [q] ∧ (chk A cond).b (Γ.inn scope) q = true
  set2 : noSet I2 = true
  i2 : (chk A it2).i (Γ.inn scope) T2 I2 = true
  t2 : (chk A tg2).tw own2 (Γ.inn scope) T2 = true
  c2 : (ifs2 = [] ∧ isTrueC cond2 = true) ∨ ∃ q, ifs2 = [q] ∧ (chk A cond2).b (Γ.inn scope) q = true
  x : (chk A elt).e (Γ.inn scope) E1 = true
  sub : ∀ i ∈ own2, i ∈ own
  ok : blkC Γ.N Γ.sc scope (own.map fun j => (Γ.N.getD j Str.empty, j)) = true
theorem lcp2_of {own own2 : List Nat} {it tg cond it2 tg2 cond2 elt : C} {Γ : Gm} {E : Expr} (h : (chk A (.comp2 own own2 it tg cond it2 tg2 cond2 elt)).lc Γ E = true) : ∃ E1 gs scope p T1 I1 T2 I2 ifs ifs2, E = .ListComp E1 gs scope p ∧ LcP2 A own own2 it tg cond it2 tg2 cond2 elt Γ E1 gs scope T1 I1 T2 I2 ifs ifs2 := by
  unfold chk at h
  dsimp only at h
  split at h
  · rename_i E1 T1 I1 ifs T2 I2 ifs2 scope p
    obtain ⟨h, h7⟩ := and2 h
    obtain ⟨h, h6⟩ := and2 h
    obtain ⟨h, h5⟩ := and2 h
    obtain ⟨ha, hb⟩ := and2 h
    obtain ⟨ha, a4⟩ := and2 ha
    obtain ⟨ha, a3⟩ := and2 ha
    obtain ⟨a1, a2⟩ := and2 ha
    obtain ⟨hb, b4⟩ := and2 hb
    obtain ⟨hb, b3⟩ := and2 hb
    obtain ⟨b1, b2⟩ := and2 hb
    refine ⟨E1, _, scope, p, T1, I1, T2, I2, ifs, ifs2, rfl, rfl, a1, a2, a3, ?_, b1, b2, b3, ?_, h5, ?_, h7⟩
    · match ifs, a4 with
      | [], h4 => exact .inl ⟨rfl, h4⟩
      | [q], h4 => exact .inr ⟨q, rfl, h4⟩
      | _ :: _ :: _, h4 => cases h4
    · match ifs2, b4 with
      | [], h4 => exact .inl ⟨rfl, h4⟩
      | [q], h4 => exact .inr ⟨q, rfl, h4⟩
      | _ :: _ :: _, h4 => cases h4
    · intro i hi
      have := List.all_eq_true.mp h6 i hi
      exact List.contains_iff_mem.mp this
  · cases h
section
variable {a2 b2 c2 : C}
theorem se_c2 {own own2 : List Nat} {G : Rt} {fa : Nat → Addr} {call : Calls} {k : Nat} {Γ : Gm} {X : Cx} {W : WX} (hi : Snd A a) (ht : Snt A b) (hc : Snd A c) (hi2 : Snd A a2) (ht2 : Snt A b2) (hc2 : Snd A c2) (hx : Snd A d) (O : Okx A G fa call k Γ X) {E : Expr} (h : (chk A (.comp2 own own2 a b c a2 b2 c2 d)).lc Γ E = true) : PE X E (tE G W (den A.T call call (.comp2 own own2 a b c a2 b2 c2 d)).e) ∧ plainT E = true := by
  obtain ⟨E1, gs, scope, p, T1, I1, T2, I2, ifs, ifs2, rfl, L⟩ := lcp2_of h
  obtain ⟨rfl, h1, h2, h3, h4, g1, g2, g3, g4, h5, hv, h6⟩ := L
  have ok : BlkOk X.N X.env.scope scope (own.map fun j => (Γ.N.getD j Str.empty, j)) := by rw [O.N, O.sc]; exact blkOk_by h6
  exact ⟨se_lc2 (W2 := W) O.calm O.nd (hi.i O _ _ h2) ok (own_map _ _) hv (fun s H C cl fp => ht.tw (O.inn scope s H C cl fp) _ h3) (fun s H C cl fp => conds (O.inn scope s H C cl fp) hc h4)
    (fun s H C cl fp => hi2.i (O.inn scope s H C cl fp) _ _ g2) (fun s H C cl fp => ht2.tw (O.inn scope s H C cl fp) _ g3) (fun s H C cl fp => conds (O.inn scope s H C cl fp) hc2 g4) (fun s H C cl fp => hx.e (O.inn scope s H C cl fp) _ h5) (set_no h1) (fun env x => set_no g1 x), rfl⟩
theorem snd_comp2 {own own2 : List Nat} (hi : Snd A a) (ht : Snt A b) (hc : Snd A c) (hi2 : Snd A a2) (ht2 : Snt A b2) (hc2 : Snd A c2) (hx : Snd A d) : Snd A (.comp2 own own2 a b c a2 b2 c2 d) where
  e := fun O E h => (se_c2 hi ht hc hi2 ht2 hc2 hx O h).1
  b := fun O E h => pt_plain O.ops.K (se_c2 hi ht hc hi2 ht2 hc2 hx O h).1 (tru_plain (se_c2 (W := fun _ _ _ _ => True) hi ht hc hi2 ht2 hc2 hx O h).2)
  bw := fun {G fa call k Γ X W} O op es p h => by
    obtain ⟨E1, gs, scope, p, T1, I1, T2, I2, ifs, ifs2, e, L⟩ := lcp2_of (A := A) (own := own) (own2 := own2) (it := a) (tg := b) (cond := c) (it2 := a2) (tg2 := b2) (cond2 := c2) (elt := d) (Γ := Γ) (E := .BoolOp op es p) h
    cases e
  l := fun O es h => by cases h
  w := fun O es h => by cases h
  tp := fun O es h => by cases h
  t := fun O E h => by cases h
  ft := fun O E h => by cases h
  i := fun O T E h => si_exp O.ops.K (se_c2 hi ht hc hi2 ht2 hc2 hx O h).1
theorem sns_comp2 {own own2 : List Nat} (hi : Snd A a) (ht : Snt A b) (hc : Snd A c) (hi2 : Snd A a2) (ht2 : Snt A b2) (hc2 : Snd A c2) (hx : Snd A d) : Sns A (.comp2 own own2 a b c a2 b2 c2 d) where
  lc := fun {G fa call k Γ X W} O E1 gs scope q i y py sp h hy hyl hsw => by
    obtain ⟨E1', gs', scope', p, T1, I1, T2, I2, ifs, ifs2, e, L⟩ := lcp2_of h
    cases e
    obtain ⟨rfl, h1, h2, h3, h4, g1, g2, g3, g4, h5, hv, h6⟩ := L
    have ok : BlkOk X.N X.env.scope scope (own.map fun j => (Γ.N.getD j Str.empty, j)) := by rw [O.N, O.sc]; exact blkOk_by h6
    exact ss_setLc2 (W2 := W) O.calm O.nd hy hyl hsw (hi.i O _ _ h2) ok (own_map _ _) hv (fun s H C cl fp => ht.tw (O.inn scope s H C cl fp) _ h3) (fun s H C cl fp => conds (O.inn scope s H C cl fp) hc h4)
      (fun s H C cl fp => hi2.i (O.inn scope s H C cl fp) _ _ g2) (fun s H C cl fp => ht2.tw (O.inn scope s H C cl fp) _ g3) (fun s H C cl fp => conds (O.inn scope s H C cl fp) hc2 g4) (fun s H C cl fp => hx.e (O.inn scope s H C cl fp) _ h5) (set_no h1) (fun env x => set_no g1 x)
  o := fun O st h => by cases h
  s := fun O b h => by cases h
end
theorem snd_dcomp {own : List Nat} (hi : Snd A a) (ht : Snt A b) (hk : Snd A c) (hv : Snd A d) : Snd A (.dcomp own a b c d) := by
  refine snd_B rfl (fun {G fa call k Γ X W} O E h => ?_) (fun O E h => by cases h) (fun O op es p h => by cases h) fun _ => .inr rfl
  split at h
  · rename_i kx vx T1 I1 scope p
    obtain ⟨h, h6⟩ := and2 h
    obtain ⟨h, h5⟩ := and2 h
    obtain ⟨h, h4⟩ := and2 h
    obtain ⟨h, h3⟩ := and2 h
    obtain ⟨h1, h2⟩ := and2 h
    have ok : BlkOk X.N X.env.scope scope (own.map fun j => (Γ.N.getD j Str.empty, j)) := by rw [O.N, O.sc]; exact blkOk_by h6
    exact se_dc (W2 := W) O.calm O.nd (hi.i O _ _ h2) ok (own_map _ _) (fun s H C cl fp => ht.tw (O.inn scope s H C cl fp) _ h3) (fun s H C cl fp => hk.e (O.inn scope s H C cl fp) _ h4) (fun s H C cl fp => hv.e (O.inn scope s H C cl fp) _ h5) (set_no h1)
  · cases h
theorem sns_comp {own : List Nat} (hi : Snd A a) (ht : Snt A b) (hc : Snd A c) (hx : Snd A d) : Sns A (.comp own a b c d) where
  lc := fun {G fa call k Γ X W} O E1 gs scope q i y py sp h hy hyl hsw => by
    obtain ⟨E1', gs', scope', p, T1, I1, ifs, e, L⟩ := lcp_of h
    cases e
    obtain ⟨rfl, h1, h2, h3, h4, h5, h6⟩ := L
    have ok : BlkOk X.N X.env.scope scope (own.map fun j => (Γ.N.getD j Str.empty, j)) := by rw [O.N, O.sc]; exact blkOk_by h6
    exact ss_setLc (W2 := W) O.calm O.nd hy hyl hsw (hi.i O _ _ h2) ok (own_map _ _) (fun s H C cl fp => ht.tw (O.inn scope s H C cl fp) _ h3) (fun s H C cl fp => conds (O.inn scope s H C cl fp) hc h4) (fun s H C cl fp => hx.e (O.inn scope s H C cl fp) _ h5) (set_no h1)
  o := fun O st h => by cases h
  s := fun O b h => by cases h
/-! ### assignments -/
theorem swapped_two {x y : Str} {px py pt pt2 : Pos} {kt k2 : Nat} {a b : Expr} {env : PySem.Env} (hk : env.scope.kind = .function) (hx : env.scope.names.lookup x = some .local) (hy : env.scope.names.lookup y = some .local) (hxy : x ≠ y) (hl : (px.line == py.line) = true) (ha : nostar a = true) (hb : nostar b = true)
    (h1 : (foldedForSure 8 a && foldedForSure 8 b) = false) (h2 : (constantsAlone 8 a && constantsAlone 8 b) = false) : swappedStores [.Tuple [.Name x px, .Name y py] kt pt] (.Tuple [a, b] k2 pt2) env = pure (some [x, y]) := by
  have hb' : env.blockKind = .function := by unfold Env.blockKind; rw [hk]; rfl
  have kx : env.kindOf x = some .local := hx
  have ky : env.kindOf y = some .local := hy
  have hl' : px.line = py.line := by simpa using hl
  unfold swappedStores
  have d1 : [x, y].eraseDups.length = 2 := by
    have e : (y == x) = false := beq_eq_false_iff_ne.mpr (Ne.symm hxy)
    simp [List.eraseDups_cons, e]
  simp [hb', kx, ky, hl', Expr.pos]
  rw [if_neg, if_pos d1, if_neg, if_neg]
  · rintro ⟨z1, z2⟩; rw [z1, z2] at h2; cases h2
  · rintro ⟨z1, z2⟩; rw [z1, z2] at h1; cases h1
  · rintro (z | z)
    · cases a <;> first | (cases z; done) | cases ha
    · cases b <;> first | (cases z; done) | cases hb
/-- the targets of a store of two names at once -/
theorem slots2_of {tg : C} {i j : Nat} (h : slots2 tg = [i, j]) : tg = .tup (.cons (.v i) (.cons (.v j) .nil)) := by
  unfold slots2 at h
  split at h
  · cases h; rfl
  · cases h
theorem slots3_of {tg : C} {i j m : Nat} (h : slots3 tg = [i, j, m]) : tg = .tup (.cons (.v i) (.cons (.v j) (.cons (.v m) .nil))) := by
  unfold slots3 at h
  split at h
  · cases h; rfl
  · cases h
def tgsC : List Nat → C
  | [] => .nil
  | i :: r => .cons (.v i) (tgsC r)
theorem ts_tgs {T : Tb} {call : Calls} : ∀ (is : List Nat) (vs : List PV) (e : Env) (S : Store), (den T call call (tgsC is)).ts vs e S = if (vs.length == is.length && is.all (decide <| · < e.length)) = true then .ok ((is.zip vs).foldl (fun e ip => e.set ip.1 (some ip.2)) e) S else .bad
  | [], [], e, S => rfl
  | [], _ :: _, e, S => rfl
  | i :: r, [], e, S => rfl
  | i :: r, v :: q, e, S => by
    show ((if i < e.length then R.ok (e.set i (some v)) S else .bad).bind fun e S => (den T call call (tgsC r)).ts q e S) = _
    by_cases h : i < e.length
    · rw [if_pos h, bind_ok, ts_tgs r q]
      have e1 : (q.length + 1 == r.length + 1) = (q.length == r.length) := Bool.eq_iff_iff.mpr (by simp)
      simp only [List.length_set, List.length_cons, List.all_cons, h, decide_true, Bool.true_and, List.zip_cons_cons, List.foldl_cons, e1]
    · rw [if_neg h, bind_bad, if_neg (by simp [h])]
theorem par_eqN {T : Tb} {call : Calls} {is : List Nat} (l : Env → Store → R (List PV)) : parE l is = asgE (fun e S => (l e S).bind fun ps S => if ps.length ≤ lim then .ok (.tup ps) S else .bad) (den T call call (.tup (tgsC is))).t := by
  funext e S
  unfold parE asgE
  dsimp only
  cases hl : l e S with
  | bad => rfl
  | exc z S1 => rfl
  | ok ps S1 =>
    simp only [R.bindS, bind_ok]
    by_cases h : ps.length ≤ lim
    · rw [if_pos h, if_pos h]
      show _ = R.bindB ((den T call call (tgsC is)).ts ps e S1) _
      rw [ts_tgs]
      split <;> rfl
    · rw [if_neg h, if_neg h]
theorem swapped_three {x y z : Str} {px py pz pt pt2 : Pos} {kt k2 : Nat} {a b c : Expr} {env : PySem.Env} (hk : env.scope.kind = .function) (hx : env.scope.names.lookup x = some .local) (hy : env.scope.names.lookup y = some .local) (hz : env.scope.names.lookup z = some .local) (hxy : x ≠ y) (hxz : x ≠ z) (hyz : y ≠ z) (hl : (px.line == py.line) = true) (hl2 : (px.line == pz.line) = true) (ha : nostar a = true) (hb : nostar b = true) (hc : nostar c = true)
    (h1 : (foldedForSure 8 a && foldedForSure 8 b && foldedForSure 8 c) = false) (h2 : (constantsAlone 8 a && constantsAlone 8 b && constantsAlone 8 c) = false) : swappedStores [.Tuple [.Name x px, .Name y py, .Name z pz] kt pt] (.Tuple [a, b, c] k2 pt2) env = pure (some [x, y, z]) := by
  have hb' : env.blockKind = .function := by unfold Env.blockKind; rw [hk]; rfl
  have kx : env.kindOf x = some .local := hx
  have ky : env.kindOf y = some .local := hy
  have kz : env.kindOf z = some .local := hz
  have hl' : px.line = py.line := by simpa using hl
  have hl2' : px.line = pz.line := by simpa using hl2
  unfold swappedStores
  have d1 : [x, y, z].eraseDups.length = 3 := by
    have e1 : (y == x) = false := beq_eq_false_iff_ne.mpr (Ne.symm hxy)
    have e2 : (z == x) = false := beq_eq_false_iff_ne.mpr (Ne.symm hxz)
    have e3 : (z == y) = false := beq_eq_false_iff_ne.mpr (Ne.symm hyz)
    simp [List.eraseDups_cons, e1, e2, e3]
  simp [hb', kx, ky, kz, ← hl', ← hl2', Expr.pos]
  rw [if_neg, if_pos d1, if_neg, if_neg]
  · rintro ⟨z1, z2, z3⟩; rw [z1, z2, z3] at h2; cases h2
  · rintro ⟨z1, z2, z3⟩; rw [z1, z2, z3] at h1; cases h1
  · rintro (z | z | z)
    · cases a <;> first | (cases z; done) | cases ha
    · cases b <;> first | (cases z; done) | cases hb
    · cases c <;> first | (cases z; done) | cases hc
theorem no_swap {T1 V1 : Expr} {env : PySem.Env} {sc : Scope} (hs : env.scope = sc) (h : noSwapB sc T1 V1 = true) : swappedStores [T1] V1 env = pure none := by
  unfold noSwapB at h
  split at h
  · rename_i ts _ _ vs _ _
    unfold swappedStores
    dsimp only
    have hn : (ts.filterMap fun
      | .Name id pos => if env.kindOf id == some .local && pos.line == (ts.head?.map (·.pos.line)).getD 0 then some id else none
      | _ => none) = swapNames sc ts := by
      subst hs; rfl
    by_cases c1 : (!(ts.length == 2 || ts.length == 3) || vs.length != ts.length || env.blockKind != .function) = true
    · rw [if_pos c1] <;> rfl
    · rw [if_neg c1]
      split
      · rfl
      · have go : ∀ (names : List Str), names = swapNames sc ts → (do
            if names.length != ts.length || names.eraseDups.length != names.length then return none
            if vs.all (foldedForSure 8) then return none
            if vs.all (constantsAlone 8) then unsupported "assign.tuple-of-constant-expressions:order-of-the-stores"
            return some names : Sem (Option (List Str))) = pure none := fun names e => by
          subst e
          by_cases c3 : ((swapNames sc ts).length != ts.length || (swapNames sc ts).eraseDups.length != (swapNames sc ts).length) = true
          · rw [if_pos c3] <;> rfl
          · rw [if_neg c3]
            have c4 : vs.all (foldedForSure 8) = true := by
              simp only [Bool.or_eq_true] at h c1 c3
              rcases h with ((h | h) | h) | h
              · exact absurd (.inl (.inl h)) c1
              · exact absurd (.inl (.inr h)) c1
              · exact absurd (.inl h) c3
              · exact h
            show (if vs.all (foldedForSure 8) = true then _ else _) = _
            rw [if_pos c4] <;> rfl
        exact go _ hn
  · rcases Bool.or_eq_true_iff.mp h with h | h
    · exact swapped_no h
    · exact swapped_no2 h
theorem sole_cel {Γ : Gm} {T1 V1 : Expr} {l : Nat} {env : PySem.Env} (hs : env.scope = Γ.sc) (h : celT Γ T1 = true) : swapsWithSole [T1] V1 l env = pure false := by
  have key : swapsWith V1 (some T1) l env = pure false := by
    unfold swapsWith
    cases V1 <;> first | rfl | skip
    all_goals
      cases T1 <;> first | rfl | skip
      rename_i y py
      have hc : env.kindOf y = some .cell := by
        show env.scope.names.lookup y = some .cell
        rw [hs]; exact cel_of h
      dsimp only
      rw [hc]
      have : ((some NameKind.cell : Option NameKind) == some .local) = false := by decide
      rw [this, Bool.and_false, Bool.false_and, Bool.false_and] <;> rfl
  exact key
theorem par3_of {Γ : Gm} {is : List Nat} {xs vs : List Expr} (h : parB3 Γ is xs vs = true) : ∃ i j m x px y py z pz u v t, is = [i, j, m] ∧ xs = [.Name x px, .Name y py, .Name z pz] ∧ vs = [u, v, t] ∧ (isN Γ i x = true ∧ isN Γ j y = true ∧ isN Γ m z = true) ∧ (i ≠ j ∧ i ≠ m ∧ j ≠ m) ∧ (locB Γ.sc x = true ∧ locB Γ.sc y = true ∧ locB Γ.sc z = true) ∧ (x ≠ y ∧ x ≠ z ∧ y ≠ z) ∧ ((px.line == py.line) = true ∧ (px.line == pz.line) = true) ∧ (nostar u = true ∧ nostar v = true ∧ nostar t = true) ∧
    (foldedForSure 8 u && foldedForSure 8 v && foldedForSure 8 t) = false ∧ (constantsAlone 8 u && constantsAlone 8 v && constantsAlone 8 t) = false ∧ Γ.blk = false := by
  unfold parB3 at h
  split at h
  · rename_i i j m x px y py z pz u v t
    obtain ⟨h, h9⟩ := and2 h
    obtain ⟨h, h8⟩ := and2 h
    obtain ⟨h, h7⟩ := and2 h
    obtain ⟨h, h6⟩ := and2 h
    obtain ⟨h, h5⟩ := and2 h
    obtain ⟨h, h4⟩ := and2 h
    obtain ⟨h, h3⟩ := and2 h
    obtain ⟨h1, h2⟩ := and2 h
    obtain ⟨a1, a2, a3⟩ : isN Γ i x = true ∧ isN Γ j y = true ∧ isN Γ m z = true := by obtain ⟨a, b⟩ := and2 h1; obtain ⟨c, d⟩ := and2 a; exact ⟨c, d, b⟩
    obtain ⟨b1, b2, b3⟩ : i ≠ j ∧ i ≠ m ∧ j ≠ m := by simpa [and_assoc] using h2
    obtain ⟨c1, c2, c3⟩ : locB Γ.sc x = true ∧ locB Γ.sc y = true ∧ locB Γ.sc z = true := by obtain ⟨a, b⟩ := and2 h3; obtain ⟨c, d⟩ := and2 a; exact ⟨c, d, b⟩
    obtain ⟨d1, d2, d3⟩ : x ≠ y ∧ x ≠ z ∧ y ≠ z := by
      obtain ⟨a, b⟩ := and2 h4; obtain ⟨c, d⟩ := and2 a
      exact ⟨of_decide_eq_true c, of_decide_eq_true d, of_decide_eq_true b⟩
    obtain ⟨e1, e2⟩ := and2 h5
    obtain ⟨f1, f2, f3⟩ : nostar u = true ∧ nostar v = true ∧ nostar t = true := by obtain ⟨a, b⟩ := and2 h6; obtain ⟨c, d⟩ := and2 a; exact ⟨c, d, b⟩
    exact ⟨i, j, m, x, px, y, py, z, pz, u, v, t, rfl, rfl, rfl, ⟨a1, a2, a3⟩, ⟨b1, b2, b3⟩, ⟨c1, c2, c3⟩, ⟨d1, d2, d3⟩, ⟨e1, e2⟩, ⟨f1, f2, f3⟩, not_of h7, not_of h8, not_of h9⟩
  · cases h
theorem par_of {Γ : Gm} {is : List Nat} {xs vs : List Expr} (h : parB Γ is xs vs = true) : ∃ i j x px y py u v, is = [i, j] ∧ xs = [.Name x px, .Name y py] ∧ vs = [u, v] ∧ isN Γ i x = true ∧ isN Γ j y = true ∧ i ≠ j ∧ locB Γ.sc x = true ∧ locB Γ.sc y = true ∧ x ≠ y ∧ (px.line == py.line) = true ∧ nostar u = true ∧ nostar v = true ∧
    (foldedForSure 8 u && foldedForSure 8 v) = false ∧ (constantsAlone 8 u && constantsAlone 8 v) = false ∧ Γ.blk = false := by
  unfold parB at h
  split at h
  · rename_i i j x px y py u v
    obtain ⟨h, hb9⟩ := and2 h
    obtain ⟨h, hb8⟩ := and2 h
    obtain ⟨h, hb7⟩ := and2 h
    obtain ⟨h, hb6⟩ := and2 h
    obtain ⟨h, hb5⟩ := and2 h
    obtain ⟨h, hb4⟩ := and2 h
    obtain ⟨h, hb3⟩ := and2 h
    obtain ⟨h, hb2⟩ := and2 h
    obtain ⟨h, hb1⟩ := and2 h
    obtain ⟨h, hb0⟩ := and2 h
    obtain ⟨h1, hb00⟩ := and2 h
    exact ⟨i, j, x, px, y, py, u, v, rfl, rfl, rfl, h1, hb00, by simpa using hb0, hb1, hb2, of_decide_eq_true hb3, hb4, hb5, hb6, not_of hb7, not_of hb8, not_of hb9⟩
  · cases h
theorem tp_tup {Γ : Gm} {vs : List Expr} (h : (chk A b).tp Γ vs = true) : ∃ l, b = .tup l := by
  cases b with
  | tup l => exact ⟨l, rfl⟩
  | blt o a =>
    obtain ⟨f, e⟩ := blt_form (A := A) o a
    rw [e] at h; cases h
  | mth m a l =>
    rcases mth_form (A := A) m a l with ⟨_, _, f, e⟩ | e
    · rw [e] at h; cases h
    · rw [e] at h; cases h
  | _ => cases h
theorem sns_set (ha : Snd A a) (hb : Snd A b) (hb' : Sns A b) : Sns A (.set a b) := by
  refine sns_O rfl fun {G fa call k Γ X W} O st h => ?_
  cases st <;> first | cases h | skip
  rename_i ts V1 p
  match ts, h with
  | [], h => cases h
  | _ :: _ :: _, h => cases h
  | [T1], h =>
    rcases Bool.or_eq_true_iff.mp h with h | h
    · rcases Bool.or_eq_true_iff.mp h with h | h
      · obtain ⟨h, h3⟩ := and2 h
        obtain ⟨h1, h2⟩ := and2 h
        exact ha.ft O _ h2 V1 _ p h1 (hb.e O _ h3)
      · obtain ⟨h, h5⟩ := and2 h
        obtain ⟨h, h4⟩ := and2 h
        obtain ⟨h, h3⟩ := and2 h
        obtain ⟨h1, h2⟩ := and2 h
        refine ss_asg (hb.e O _ h5) (ha.t (W := fun _ _ _ _ => True) O _ h4) ?_ (no_swap O.sc h3) (each_one h1)
        rcases Bool.or_eq_true_iff.mp h2 with h2 | h2
        · exact sole_no h2
        · exact sole_cel O.sc h2
    · split at h
      · rename_i i y py E1 gs scope q _ _
        obtain ⟨h, h6⟩ := and2 h
        obtain ⟨h, h5⟩ := and2 h
        obtain ⟨h, h4⟩ := and2 h
        obtain ⟨h, h3⟩ := and2 h
        obtain ⟨h1, h2⟩ := and2 h
        have hl : X.env.scope.names.lookup y = some .local := by rw [O.sc]; exact loc_of h2
        exact hb'.lc O E1 gs scope q i y py p h6 (O.nN h1) hl (sw_true (by rw [O.sc]; exact O.kind (not_of h5)) hl h3 (not_of h4))
      · rename_i xs kt pt vs k2 pt2 _ _
        obtain ⟨h1, h2⟩ := and2 h
        rcases Bool.or_eq_true_iff.mp h1 with h1 | h1
        · obtain ⟨i, j, x, px, y, py, u, v, hs, rfl, rfl, n1, n2, hij, l1, l2, hxy, hl, hu, hv, f1, f2, hk⟩ := par_of h1
          have e := slots2_of hs
          subst e
          have lx : X.env.scope.names.lookup x = some .local := by rw [O.sc]; exact loc_of l1
          have ly : X.env.scope.names.lookup y = some .local := by rw [O.sc]; exact loc_of l2
          have pa := hb.tp (W := W) O _ h2
          have := ss_par (pos := p) (px := px) (py := py) (pt := pt) (kt := kt) (k2 := k2) (pt2 := pt2) O.calm O.nd (O.nN n1) (O.nN n2) hij lx ly pa (swapped_two (pt2 := pt2) (by rw [O.sc]; exact O.kind hk) lx ly hxy hl hu hv f1 f2)
          obtain ⟨l, rfl⟩ := tp_tup h2
          rw [par_eqN (T := A.T) (call := call)] at this
          exact this
        · obtain ⟨i, j, m, x, px, y, py, z, pz, u, v, t, hs, rfl, rfl, ⟨n1, n2, n3⟩, ⟨hij, him, hjm⟩, ⟨l1, l2, l3⟩, ⟨hxy, hxz, hyz⟩, ⟨hl, hl2⟩, ⟨hu, hv, ht⟩, f1, f2, hk⟩ := par3_of h1
          have e := slots3_of hs
          subst e
          have lx : X.env.scope.names.lookup x = some .local := by rw [O.sc]; exact loc_of l1
          have ly : X.env.scope.names.lookup y = some .local := by rw [O.sc]; exact loc_of l2
          have lz : X.env.scope.names.lookup z = some .local := by rw [O.sc]; exact loc_of l3
          have pa := hb.tp (W := W) O _ h2
          have := ss_par3 (pos := p) (px := px) (py := py) (pz := pz) (pt := pt) (kt := kt) (k2 := k2) (pt2 := pt2) O.calm O.nd (O.nN n1) (O.nN n2) (O.nN n3) hij him hjm lx ly lz pa (swapped_three (pt2 := pt2) (by rw [O.sc]; exact O.kind hk) lx ly lz hxy hxz hyz hl hl2 hu hv ht f1 f2)
          obtain ⟨l, rfl⟩ := tp_tup h2
          rw [par_eqN (T := A.T) (call := call)] at this
          exact this
      · cases h
end Ev
set_option Elab.async false
set_option linter.all false
set_option maxRecDepth 100000
set_option maxHeartbeats 1000000
/-! E27: every term: what the test tells. -/
namespace Ev
open PySem L2
open PyProof.Rows hiding St

variable {A : Stc}
theorem snd_none {c : C} (h : chk A c = {}) : Snd A c ∧ Snt A c ∧ Sns A c :=
  ⟨{ e := fun O E z => by rw [h] at z; cases z
     b := fun O E z => by rw [h] at z; cases z
     bw := fun O op es p z => by rw [h] at z; cases z
     l := fun O es z => by rw [h] at z; cases z
     w := fun O es z => by rw [h] at z; cases z
     tp := fun O es z => by rw [h] at z; cases z
     t := fun O E z => by rw [h] at z; cases z
     ft := fun O E z => by rw [h] at z; cases z
     i := fun O T E z => by rw [h] at z; cases z },
    snt_no (by rw [h]) (by rw [h]) (by rw [h]), sns_no (by rw [h]) (by rw [h]) (by rw [h])⟩
/-- a statement is no expression -/
theorem snd_st {c : C} {f : Gm → Stmt → Bool} (hc : chk A c = chO f) : Snd A c ∧ Snt A c :=
  ⟨{ e := fun O E z => by rw [hc] at z; cases z
     b := fun O E z => by rw [hc] at z; cases z
     bw := fun O op es p z => by rw [hc] at z; cases z
     l := fun O es z => by rw [hc] at z; cases z
     w := fun O es z => by rw [hc] at z; cases z
     tp := fun O es z => by rw [hc] at z; cases z
     t := fun O E z => by rw [hc] at z; cases z
     ft := fun O E z => by rw [hc] at z; cases z
     i := fun O T E z => by rw [hc] at z; cases z },
    snt_no (by rw [hc]; rfl) (by rw [hc]; rfl) (by rw [hc]; rfl)⟩
theorem tri {c : C} (h : Snd A c) (h1 : (chk A c).ts = fun _ _ => false) (h2 : (chk A c).tw = fun _ _ _ => false) (h3 : (chk A c).tsw = fun _ _ _ => false) (h4 : (chk A c).lc = fun _ _ => false) (h5 : (chk A c).o = fun _ _ => false) (h6 : (chk A c).s = fun _ _ => false) : Snd A c ∧ Snt A c ∧ Sns A c :=
  ⟨h, snt_no h1 h2 h3, sns_no h4 h5 h6⟩
theorem triE {c : C} {f : Gm → Expr → Bool} (h : Snd A c) (hc : chk A c = chE f) : Snd A c ∧ Snt A c ∧ Sns A c :=
  tri h (by rw [hc]; rfl) (by rw [hc]; rfl) (by rw [hc]; rfl) (by rw [hc]; rfl) (by rw [hc]; rfl) (by rw [hc]; rfl)
theorem blt_split (o : Blt) (l : C) : (∃ t b, o = .isi [t] ∧ l = .cons b .nil) ∨ ¬ ∃ t b, o = .isi [t] ∧ l = .cons b .nil := by
  by_cases h : ∃ t b, o = .isi [t] ∧ l = .cons b .nil
  · exact .inl h
  · exact .inr h
theorem snd_all : ∀ c : C, Snd A c ∧ Snt A c ∧ Sns A c
  | .v i => ⟨snd_v, snt_v, sns_no rfl rfl rfl⟩
  | .k p => tri snd_k rfl rfl rfl rfl rfl rfl
  | .g n => tri snd_g rfl rfl rfl rfl rfl rfl
  | .bin o a b => tri (snd_bin (snd_all a).1 (snd_all b).1) rfl rfl rfl rfl rfl rfl
  | .neg a => tri (snd_neg (snd_all a).1) rfl rfl rfl rfl rfl rfl
  | .cmp o a b => tri (snd_cmp (snd_all a).1 (snd_all b).1) rfl rfl rfl rfl rfl rfl
  | .chain o o' a b c => tri (snd_chain (snd_all a).1 (snd_all b).1 (snd_all c).1) rfl rfl rfl rfl rfl rfl
  | .and a b => tri (snd_and (snd_all a).1 (snd_all b).1) rfl rfl rfl rfl rfl rfl
  | .or a b => tri (snd_or (snd_all a).1 (snd_all b).1) rfl rfl rfl rfl rfl rfl
  | .not a => tri (snd_not (snd_all a).1) rfl rfl rfl rfl rfl rfl
  | .ite t a b => tri (snd_ite (snd_all t).1 (snd_all a).1 (snd_all b).1) rfl rfl rfl rfl rfl rfl
  | .nil => ⟨snd_nil, snt_nil, sns_no rfl rfl rfl⟩
  | .cons a l => ⟨snd_cons (snd_all a).1 (snd_all l).1, snt_cons (snd_all a).1 (snd_all a).2.1 (snd_all l).2.1, sns_no rfl rfl rfl⟩
  | .star a l => tri (snd_star (snd_all a).1 (snd_all l).1) rfl rfl rfl rfl rfl rfl
  | .tup l => ⟨snd_tup (snd_all l).1 (snd_all l).2.1, snt_tup (snd_all l).2.1, sns_no rfl rfl rfl⟩
  | .lst l => tri (snd_lst (snd_all l).1) rfl rfl rfl rfl rfl rfl
  | .lstc l => tri (snd_lstc (snd_all l).1) rfl rfl rfl rfl rfl rfl
  | .ix a b => tri (snd_ix (snd_all a).1 (snd_all b).1) rfl rfl rfl rfl rfl rfl
  | .sl a b c => tri (snd_sl (snd_all a).1 (snd_all b).1 (snd_all c).1) rfl rfl rfl rfl rfl rfl
  | .rev a => tri (snd_rev (snd_all a).1) rfl rfl rfl rfl rfl rfl
  | .sset a => tri (snd_sset (snd_all a).1) rfl rfl rfl rfl rfl rfl
  | .lrange t l => tri (snd_lrange (snd_all l).1) rfl rfl rfl rfl rfl rfl
  | .makeK j c l kl => tri (snd_makeK (snd_all l).1 (snk_of kl fun a h => (snd_all a).1)) rfl rfl rfl rfl rfl rfl
  | .dict ks l => snd_none rfl
  | .attr a n => tri (snd_attr (snd_all a).1) rfl rfl rfl rfl rfl rfl
  | .call f l perm => tri (snd_call (snd_all l).1) rfl rfl rfl rfl rfl rfl
  | .make f l perm => tri (snd_make (snd_all l).1) rfl rfl rfl rfl rfl rfl
  | .meth a n l perm => tri (snd_meth (snd_all a).1 (snd_all l).1) rfl rfl rfl rfl rfl rfl
  | .cmeth f n l perm => tri (snd_cmeth (snd_all l).1) rfl rfl rfl rfl rfl rfl
  | .callK j l kl => tri (snd_callK (snd_all l).1 (snk_of kl fun a h => (snd_all a).1)) rfl rfl rfl rfl rfl rfl
  | .methK a n j l kl => tri (snd_methK (snd_all a).1 (snd_all l).1 (snk_of kl fun a h => (snd_all a).1)) rfl rfl rfl rfl rfl rfl
  | .blt o l => by
    rcases blt_split o l with ⟨t, b, rfl, rfl⟩ | h
    · exact tri (snd_isi (snd_all b).1) rfl rfl rfl rfl rfl rfl
    · obtain ⟨f, e⟩ := blt_form (A := A) o l
      exact triE (snd_blt (snd_all l).1 fun t b z => h ⟨t, b, z⟩) e
  | .mth m a l => by
    rcases mth_form (A := A) m a l with ⟨b, rfl, _⟩ | e
    · exact tri (snd_mth (snd_all a).1 (snd_all b).1) rfl rfl rfl rfl rfl rfl
    · exact snd_none e
  | .fstr l => tri (snd_fstr (snj_of l fun a h => (snd_all a).1)) rfl rfl rfl rfl rfl rfl
  | .fmt a => tri (snd_fmt (snd_all a).1) rfl rfl rfl rfl rfl rfl
  | .range l => tri (snd_range (snd_all l).1) rfl rfl rfl rfl rfl rfl
  | .enum a => tri (snd_enum (snd_all a).1) rfl rfl rfl rfl rfl rfl
  | .zip a b => tri (snd_zip (snd_all a).1 (snd_all b).1) rfl rfl rfl rfl rfl rfl
  | .comp own it tg cond elt => ⟨snd_comp (snd_all it).1 (snd_all tg).2.1 (snd_all cond).1 (snd_all elt).1, snt_no rfl rfl rfl, sns_comp (snd_all it).1 (snd_all tg).2.1 (snd_all cond).1 (snd_all elt).1⟩
  | .comp2 own own2 a b c a2 b2 c2 d => ⟨snd_comp2 (snd_all a).1 (snd_all b).2.1 (snd_all c).1 (snd_all a2).1 (snd_all b2).2.1 (snd_all c2).1 (snd_all d).1, snt_no rfl rfl rfl, sns_comp2 (snd_all a).1 (snd_all b).2.1 (snd_all c).1 (snd_all a2).1 (snd_all b2).2.1 (snd_all c2).1 (snd_all d).1⟩
  | .dcomp own it tg key val => tri (snd_dcomp (snd_all it).1 (snd_all tg).2.1 (snd_all key).1 (snd_all val).1) rfl rfl rfl rfl rfl rfl
  | .kd n a => tri (snd_kd (snd_all a).1) rfl rfl rfl rfl rfl rfl
  | .freeze a => tri (snd_freeze (snd_all a).1) rfl rfl rfl rfl rfl rfl
  | .seq a b => ⟨{ e := fun O E z => by cases z
                   b := fun O E z => by cases z
                   bw := fun O op es p z => by cases z
                   l := fun O es z => by cases z
                   w := fun O es z => by cases z
                   tp := fun O es z => by cases z
                   t := fun O E z => by cases z
                   ft := fun O E z => by cases z
                   i := fun O T E z => by cases z }, snt_no rfl rfl rfl, sns_seq (snd_all a).2.2 (snd_all b).2.2⟩
  | .pass => ⟨{ e := fun O E z => by cases z
                b := fun O E z => by cases z
                bw := fun O op es p z => by cases z
                l := fun O es z => by cases z
                w := fun O es z => by cases z
                tp := fun O es z => by cases z
                t := fun O E z => by cases z
                ft := fun O E z => by cases z
                i := fun O T E z => by cases z }, snt_no rfl rfl rfl, sns_pass⟩
  | .set a b => ⟨(snd_st rfl).1, (snd_st rfl).2, sns_set (snd_all a).1 (snd_all b).1 (snd_all b).2.2⟩
  | .ret a => ⟨(snd_st rfl).1, (snd_st rfl).2, sns_ret (snd_all a).1⟩
  | .expr a => ⟨(snd_st rfl).1, (snd_st rfl).2, sns_expr (snd_all a).1⟩
  | .iff t a b => ⟨(snd_st rfl).1, (snd_st rfl).2, sns_iff (snd_all t).1 (snd_all a).2.2 (snd_all b).2.2⟩
  | .for_ a b c => ⟨(snd_st rfl).1, (snd_st rfl).2, sns_for (snd_all a).1 (snd_all b).1 (snd_all c).2.2⟩
  | .while_ a b => ⟨(snd_st rfl).1, (snd_st rfl).2, sns_while (snd_all a).1 (snd_all b).2.2⟩
  | .brk => ⟨(snd_st rfl).1, (snd_st rfl).2, sns_brk⟩
  | .cont => ⟨(snd_st rfl).1, (snd_st rfl).2, sns_cont⟩
  | .raise a => ⟨snd_raise, snt_no rfl rfl rfl, sns_raise⟩
termination_by c => sizeOf c
decreasing_by all_goals first | decreasing_tactic | (subst_vars; simp <;> omega)
end Ev
set_option Elab.async false
set_option linter.all false
set_option maxRecDepth 100000
set_option maxHeartbeats 1000000
/-! E28: the defs of the text. -/
namespace Ev
open PySem L2
open PyProof.Rows hiding St

section
variable {G : Rt} {F : Hp} {ρ : List Addr} {H : Hp} {S : Store}
theorem rE_start {as : List PV} {vs : List V} {N : List Str} {fn : Fn} (h : rvs G F ρ as vs) (hN : N.length = fn.slots) : rE G F ρ (envOf fn as) (L2.start N vs) := by
  have hl := rvs_len h
  refine ⟨?_, fun i p hp => ?_⟩
  · unfold envOf L2.start
    simp only [List.length_append, List.length_map, List.length_replicate, hl, hN]
  · unfold envOf at hp
    by_cases hi : i < as.length
    · rw [List.getElem?_append_left (by simpa using hi), List.getElem?_map] at hp
      cases ha : as[i]? with
      | none => rw [ha] at hp; cases hp
      | some q =>
        rw [ha] at hp
        cases hp
        obtain ⟨v, hv, r⟩ := rvs_get h ha
        refine ⟨v, ?_, r⟩
        unfold L2.start
        rw [List.getElem?_append_left (by rw [List.length_map, ← hl]; exact hi), List.getElem?_map, hv]
        rfl
    · rw [List.getElem?_append_right (by simpa using hi), List.getElem?_replicate] at hp
      split at hp <;> cases hp
/-- a body's end -/
theorem post_end {r : R Fl} {Q : VK} {E : XK} {W : WX} (hS : SR G F ρ H S) (hP : Post G F ρ H (endE S.length r) (rv G) Q E) : PostS G F ρ H r { nx := fun _ H' => Q .non H', rt := Q } W := by
  have key : ∀ {p : PV} {S1 : Store}, Post G F ρ H (after S.length p S1) (rv G) Q E → ∀ F' ρ' H' v, Ext F ρ H F' ρ' H' → SR G F' ρ' H' S1 → rv G F' ρ' p v → Q v H' := fun {p S1} hP F' ρ' H' v x s q => by
    cases ha : after S.length p S1 with
    | bad => rw [ha] at hP; exact hP.elim
    | exc z S2 => exact (after_noexc ha).elim
    | ok p2 S2 =>
      rw [ha] at hP
      obtain ⟨rfl, ρ2, l1, l2, s2, r2⟩ := after_ok ha s q
      rw [take_pre x.r hS.len.symm] at l1
      exact hP F' ρ2 H' v (x.back l1 l2) s2 r2
  cases r with
  | bad => exact hP
  | exc z S1 => exact hP
  | ok f S1 =>
    cases f with
    | next e => exact fun F' ρ' H' σ' x s q => key hP F' ρ' H' .non x s (by unfold rv; rfl)
    | ret p => exact fun F' ρ' H' v x s q => key hP F' ρ' H' v x s q
    | brk e => exact hP.elim
    | cont e => exact hP.elim
    | exc z e => exact fun F' ρ' H' σ' cls d x s q z => z.elim
end
/-- what is told of a def: its place in the text, its names -/
structure FI where
  name : Str
  qual : Str
  st : Stmt
  N : List Str
  ps : List Str
  star : Option Str
def FI.Γ (fi : FI) : Gm := { N := fi.N, sc := defScope fi.st, blk := false, cs := defScope fi.st }
def FI.all (fi : FI) : List Str := fi.ps ++ fi.star.toList
/-- a def of the text as it stands behind the top, whatever its defaults -/
structure FunX (K : PySem.W.Frag) (x qual : Str) (st : Stmt) (f : Addr) (fd : FuncData) : Prop where
  ex : ∃ (oc : Value) (od : Option Addr) (dV kV doc pm : Value) (an : Option Addr) (cdv ct : Value) (osl : Array (Option Value)),
    fd = PySem.W.fnOf x qual (defArgs st) (defBody st) (defScope st) dV kV doc pm an cdv ct ∧ K.lookup f = some ⟨oc, od, .func fd, osl⟩ ∧ PySem.W.codeIn K cdv qual = true ∧
      (dV = .none ∨ ∃ (T : Addr) (o : Obj) (its : Array Value) (n : Nat), dV = .ref T ∧ K.lookup T = some o ∧ o.data = .seq its n)
  kp : PySem.W.keepIn K (.ref f) = true
theorem fun_mkX {K : PySem.W.Frag} {x qual : Str} {st : Stmt} {f : Addr} {oc : Value} {od an : Option Addr} {osl : Array (Option Value)} {kV doc pm cdv ct : Value} (l : K.lookup f = some ⟨oc, od, .func (PySem.W.fnOf x qual (defArgs st) (defBody st) (defScope st) .none kV doc pm an cdv ct), osl⟩)
    (c : PySem.W.codeIn K cdv qual = true) (k : PySem.W.keepIn K (.ref f) = true) : FunX K x qual st f (PySem.W.fnOf x qual (defArgs st) (defBody st) (defScope st) .none kV doc pm an cdv ct) := ⟨⟨oc, od, .none, kV, doc, pm, an, cdv, ct, osl, rfl, l, c, .inl rfl⟩, k⟩
theorem fun_mkD {K : PySem.W.Frag} {x qual : Str} {st : Stmt} {f T : Addr} {oc : Value} {od an td : Option Addr} {osl tsl : Array (Option Value)} {kV doc pm cdv ct : Value} {tc : Value} {its : Array Value} {n : Nat} (l : K.lookup f = some ⟨oc, od, .func (PySem.W.fnOf x qual (defArgs st) (defBody st) (defScope st) (.ref T) kV doc pm an cdv ct), osl⟩)
    (t : K.lookup T = some ⟨tc, td, .seq its n, tsl⟩) (c : PySem.W.codeIn K cdv qual = true) (k : PySem.W.keepIn K (.ref f) = true) : FunX K x qual st f (PySem.W.fnOf x qual (defArgs st) (defBody st) (defScope st) (.ref T) kV doc pm an cdv ct) := ⟨⟨oc, od, .ref T, kV, doc, pm, an, cdv, ct, osl, rfl, l, c, .inr ⟨T, _, its, n, rfl, t, rfl⟩⟩, k⟩
section
variable {A : Stc} {G : Rt} {fa : Nat → Addr} {P : Program} {w : World} {mg : Str → Option Value} {base : Heap} {k m f : Nat} {fi : FI} {fn : Fn} {fd : FuncData}
/-- the facts of the text, ahead of any body -/
structure Txf (A : Stc) (G : Rt) (fa : Nat → Addr) (mg : Str → Option Value) (w : World) : Prop where
  fax : Fax A G fa mg w
  nm : NmOk G
  cls : ∀ c kl, G.T.cls[c]? = some kl → ClsOk G fa c kl
  eqs : ∀ c kl, G.T.cls[c]? = some kl → ClsEq G c
theorem okx_fn (X : Txf A G fa mg w) (S : FnScope fi.N fi.all (defScope fi.st)) {call : Calls} {cdv : Value} {ad : Addr} {Ar : Around} {outer : List PySem.Env} {s : Shared} {H : Hp} {E : XK} (ih : ∀ g, FnG P w G.K mg base k (fa g) (spC G (call g)))
    (hr : Room (k + 1) (Ar.deeper (envOfC fi.qual (defScope fi.st) s.heap.objs.size ad cdv))) (hg : Ar.guards = some []) : Okx A G fa call k fi.Γ (cxOf CX0 P w G.K mg base fi.N fi.qual (defScope fi.st) ad cdv Ar outer s H E).nox where
  ops := ⟨rfl, X.nm, X.cls, X.eqs, ih, hr, hg⟩
  fax := X.fax
  N := rfl
  sc := rfl
  nd := S.nd
  calm := rfl
  kind := fun _ => S.kind
  fnx := fun _ _ => rfl
  fnb := fun _ _ => rfl
  own := PassesOwn.never
/-- a def without a star parameter -/
theorem fn_step (X : Txf A G fa mg w) (Fn : FunX G.K fi.name fi.qual fi.st (fa f) fd) (S : FnScope fi.N fi.all (defScope fi.st)) (hb : ∀ (s : Shared) (us : List Value), G.K.In s.heap → us.length = fi.ps.length → BindsTo s fd ⟨us, []⟩ (fi.ps.zip us)) (hps : (defArgs fi.st).args.map (·.arg) = fi.ps)
    (hf : A.T.fns[f]? = some fn) (hst : fn.star = false) (hs0 : fi.star = none) (hnp : fn.np = fi.ps.length) (hN : fi.N.length = fn.slots) (hk : (chk A fn.body).s fi.Γ (defBody fi.st) = true)
    (ih : ∀ g, FnG P w G.K mg base k (fa g) (spC G (callN A.T m g))) : FnG P w G.K mg base (k + 2) (fa f) (spC G (callN A.T (m + 1) f)) := by
  obtain ⟨⟨oc, od, dV, kV, doc, pm, an, cdv, ct, osl, rfl, lk, hcd, _⟩, kp⟩ := Fn
  intro Ar outer s H us kw bs vs Q E hr hg e0 ar r hsp
  obtain ⟨F, ρ, S0, ps, hS, hv, hP⟩ := hsp
  have hall : fi.all = fi.ps := by unfold FI.all; rw [hs0]; simp
  have hl : vs.length = fi.ps.length := by
    rw [← rvs_len hv, ← hnp]
    have hP : Post G F ρ H (match A.T.fns[f]? with
      | none => R.bad
      | some fn => match argsOf fn ps with
        | none => .bad
        | some as => endE S0.length ((den A.T (callN A.T m) (callN A.T m) fn.body).s (envOf fn as) S0)) (rv G) Q E := hP
    rw [hf] at hP
    dsimp only at hP
    unfold argsOf at hP
    rw [hst] at hP
    by_cases h : (ps.length == fn.np) = true
    · simpa using h
    · simp only [Bool.false_eq_true, if_false, if_neg h] at hP
      exact hP.elim
  have hul : bs.length = fi.ps.length := by rw [← r.length]; exact hl
  have KX : G.K.In s.heap := e0.mod.kin.keeps fun b o e => (e0.bs b o e).1
  have hB : BindsTo s (PySem.W.fnOf fi.name fi.qual (defArgs fi.st) (defBody fi.st) (defScope fi.st) dV kV doc pm an cdv ct) ⟨us, kw⟩ (fi.ps.zip bs) := by
    rcases ar with ⟨rfl, rfl⟩ | ⟨oc', od', fd', osl', lk', _, _, hb'⟩
    · exact hb _ _ KX hul
    · rw [lk] at lk'
      cases lk'
      have z := hb' s KX
      rw [show (PySem.W.fnOf fi.name fi.qual (defArgs fi.st) (defBody fi.st) (defScope fi.st) dV kV doc pm an cdv ct).params.args.map (·.arg) = fi.ps from hps] at z
      exact z
  refine StX.run_bnd (CX := CX0) (k := k + 1) (ps := fi.ps) lk hcd (by rw [← hall]; exact S) hr e0 (G := fun xs H2 => xs = vs ∧ H2 = H) (fun A' Ex Q' h => ?_) fun s2 H2 xs ⟨ex, eH⟩ hr' => ?_
  · exact hB _ _ _ _ (h s H vs bs e0 (Un.kept fun _ _ e => e) rfl (fun _ _ z => z) r hl ⟨rfl, rfl⟩)
  · subst ex; subst eH
    have O := okx_fn (A := A) (mg := mg) (P := P) (w := w) (base := base) (outer := outer) (H := H2) (E := E) (cdv := cdv) (ad := fa f) (Ar := Ar) (s := s2) X S ih hr' hg
    refine ⟨_, ((snd_all fn.body).2.2.s (W := fun _ _ _ _ => True) O _ hk).nox, ?_⟩
    refine ⟨F, ρ, envOf fn ps, S0, hS, rE_start hv hN, post_end (E := E) hS ?_⟩
    have hP : Post G F ρ H2 (match A.T.fns[f]? with
      | none => R.bad
      | some fn => match argsOf fn ps with
        | none => .bad
        | some as => endE S0.length ((den A.T (callN A.T m) (callN A.T m) fn.body).s (envOf fn as) S0)) (rv G) Q E := hP
    rw [hf] at hP
    dsimp only at hP
    have ha : argsOf fn ps = some ps := by
      unfold argsOf
      rw [hst]
      have : (ps.length == fn.np) = true := by rw [hnp, ← hl, rvs_len hv]; simp
      simp [this]
    rw [ha] at hP
    exact hP
/-- a def that is not run -/
theorem fn_zero (g : Nat) : FnG P w G.K mg base k (fa g) (spC G (callN A.T 0 g)) := by
  intro Ar outer s H us kw bs vs Q E hr hg e0 ar r hsp
  obtain ⟨F, ρ, S0, ps, hS, hv, hP⟩ := hsp
  exact hP.elim
theorem fn_out (h : A.T.fns[f]? = none) : FnG P w G.K mg base k (fa f) (spC G (callN A.T (m + 1) f)) := by
  intro Ar outer s H us kw bs vs Q E hr hg e0 ar r hsp
  obtain ⟨F, ρ, S0, ps, hS, hv, hP⟩ := hsp
  have hP : Post G F ρ H (match A.T.fns[f]? with
      | none => R.bad
      | some fn => match argsOf fn ps with
        | none => .bad
        | some as => endE S0.length ((den A.T (callN A.T m) (callN A.T m) fn.body).s (envOf fn as) S0)) (rv G) Q E := hP
  rw [h] at hP
  exact hP.elim
end
end Ev
set_option Elab.async false
set_option linter.all false
set_option maxRecDepth 100000
set_option maxHeartbeats 1000000
/-! E29: defs with a star parameter; the law's own end. -/
namespace Ev
open PySem L2
open PyProof.Rows hiding St

section
variable {A : Stc} {G : Rt} {fa : Nat → Addr} {P : Program} {w : World} {mg : Str → Option Value} {base : Heap} {k m f : Nat} {fi : FI} {fn : Fn} {fd : FuncData}
theorem rvs_split {F : Hp} {ρ : List Addr} {xs : List PV} {vs : List V} (h : rvs G F ρ xs vs) (n : Nat) : rvs G F ρ (xs.take n) (vs.take n) ∧ rvs G F ρ (xs.drop n) (vs.drop n) := ⟨rvs_take n h, rvs_drop n h⟩
/-- a def whose last parameter takes what is left over -/
theorem fn_stepS {pv : Str} (X : Txf A G fa mg w) (Fn : FunX G.K fi.name fi.qual fi.st (fa f) fd) (S : FnScope fi.N fi.all (defScope fi.st))
    (hva : (defArgs fi.st).vararg.isNone = false) (hb : ∀ us rest : List Value, us.length = fi.ps.length → bindArgs fd ⟨us ++ rest, []⟩ = (newTuple rest >>= fun t => pure (fi.ps.zip us ++ [(pv, t)])))
    (hf : A.T.fns[f]? = some fn) (hst : fn.star = true) (hs0 : fi.star = some pv) (hnp : fn.np = fi.ps.length) (hN : fi.N.length = fn.slots) (hk : (chk A fn.body).s fi.Γ (defBody fi.st) = true)
    (ih : ∀ g, FnG P w G.K mg base k (fa g) (spC G (callN A.T m g))) : FnG P w G.K mg base (k + 2) (fa f) (spC G (callN A.T (m + 1) f)) := by
  obtain ⟨⟨oc, od, dV, kV, doc, pm, an, cdv, ct, osl, rfl, lk, hcd, _⟩, kp⟩ := Fn
  intro Ar outer s H us kw bs vs Q E hr hg e0 ar r hsp
  obtain rfl : bs = us := by
    rcases ar with ⟨_, e⟩ | ⟨oc', od', fd', osl', lk', hv', _⟩
    · exact e
    · rw [lk] at lk'
      cases lk'
      rw [show (PySem.W.fnOf fi.name fi.qual (defArgs fi.st) (defBody fi.st) (defScope fi.st) dV kV doc pm an cdv ct).params.vararg.isNone = (defArgs fi.st).vararg.isNone from rfl, hva] at hv'
      cases hv'
  obtain rfl : kw = [] := by
    rcases ar with ⟨e, _⟩ | ⟨oc', od', fd', osl', lk', hv', _⟩
    · exact e
    · rw [lk] at lk'
      cases lk'
      rw [show (PySem.W.fnOf fi.name fi.qual (defArgs fi.st) (defBody fi.st) (defScope fi.st) dV kV doc pm an cdv ct).params.vararg.isNone = (defArgs fi.st).vararg.isNone from rfl, hva] at hv'
      cases hv'
  clear ar
  obtain ⟨F, ρ, S0, ps, hS, hv, hP⟩ := hsp
  have hall : fi.all = fi.ps ++ [pv] := by unfold FI.all; rw [hs0]; rfl
  have hP : Post G F ρ H (match A.T.fns[f]? with
      | none => R.bad
      | some fn => match argsOf fn ps with
        | none => .bad
        | some as => endE S0.length ((den A.T (callN A.T m) (callN A.T m) fn.body).s (envOf fn as) S0)) (rv G) Q E := hP
  rw [hf] at hP
  dsimp only at hP
  have hlen : ps.length = vs.length := rvs_len hv
  by_cases hc : (decide (fn.np ≤ ps.length) && decide (ps.length ≤ lim)) = true
  · have ha : argsOf fn ps = some (ps.take fn.np ++ [.tup (ps.drop fn.np)]) := by
      unfold argsOf
      have h2 := and2 hc
      have h3 := of_decide_eq_true h2.1
      have h4 := of_decide_eq_true h2.2
      simp [hst, h3, h4]
    rw [ha] at hP
    dsimp only at hP
    have h2 := and2 hc
    have h3 : fi.ps.length ≤ vs.length := by rw [← hnp, ← hlen]; exact of_decide_eq_true h2.1
    have h4 : vs.length ≤ lim := by rw [← hlen]; exact of_decide_eq_true h2.2
    obtain ⟨r1, r2⟩ := rvs_split hv fn.np
    rw [hnp] at r1 r2 hP
    have ev : vs = vs.take fi.ps.length ++ vs.drop fi.ps.length := (List.take_append_drop _ _).symm
    rw [ev] at r
    obtain ⟨u1, u2, eu, q1, q2⟩ := StX.vals_split r
    subst eu
    have hl1 : u1.length = fi.ps.length := by rw [← q1.length, List.length_take]; omega
    have hz : (vs.drop fi.ps.length).length ≤ sizeLine := by
      rw [List.length_drop]
      exact Nat.le_trans (Nat.le_trans (Nat.sub_le _ _) h4) lim_line
    have hl2 : u2.length ≤ sizeLine := by rw [← q2.length]; exact hz
    have hn : H s.heap.objs.size = Option.none := e0.hok.fresh (Nat.le_refl _)
    refine StX.run_bnd (CX := CX0) (k := k + 1) (ps := fi.ps ++ [pv]) lk hcd (by rw [← hall]; exact S) hr e0 (G := fun xs H2 => ∃ p, H p = Option.none ∧ xs = vs.take fi.ps.length ++ [V.ref p] ∧ H2 = upd H p (.tup (vs.drop fi.ps.length))) (fun A' Ex Q' h => ?_) fun s2 H2 xs ⟨p, hp, ex, eH⟩ hr' => ?_
    · rw [hb u1 u2 hl1]
      refine wpAny_bind (wpAny_newTuple (wpAny_pure ?_) hl2)
      have new : ObjOk P w (upd H s.heap.objs.size (.tup (vs.drop fi.ps.length))) (s.heap.push ({ cls := .type "tuple", data := .seq u2.toArray } : Obj)) s.heap.objs.size (.tup (vs.drop fi.ps.length)) := ⟨hz, u2, q2, ⟨_, Heap.get?_push_size _ rfl, rfl, _, rfl⟩⟩
      have un := StX.un_laid (fs := frs outer) (s := s) (o := ({ cls := .type "tuple", data := .seq u2.toArray } : Obj)) (u := .tup (vs.drop fi.ps.length)) hn
      have z := h _ _ (vs.take fi.ps.length ++ [V.ref s.heap.objs.size]) (u1 ++ [Value.ref s.heap.objs.size]) (StX.env0_laid e0 new) un rfl (fun e s' z => z.elim) (q1.append (.cons rfl .nil))
        (by rw [List.length_append, List.length_append, List.length_take]; simp; omega) ⟨_, hn, rfl, rfl⟩
      rw [List.zip_append hl1.symm] at z
      exact z
    · subst ex; subst eH
      have O := okx_fn (A := A) (mg := mg) (P := P) (w := w) (base := base) (outer := outer) (H := upd H p (.tup (vs.drop fi.ps.length))) (E := E) (cdv := cdv) (ad := fa f) (Ar := Ar) (s := s2) X S ih hr' hg
      obtain ⟨s1, x1⟩ := hS.newX hp (.tup (vs.drop fi.ps.length))
      refine ⟨_, ((snd_all fn.body).2.2.s (W := fun _ _ _ _ => True) O _ hk).nox, ?_⟩
      refine ⟨_, ρ, envOf fn (ps.take fi.ps.length ++ [.tup (ps.drop fi.ps.length)]), S0, s1, rE_start (rvs_app (rvs_ext x1 _ _ r1) (rvs1 ?_)) hN, post_end (E := E) s1 (Post.mono x1 hP)⟩
      unfold rv
      exact ⟨p, _, rfl, .inl (.inl upd_same), rvs_ext x1 _ _ r2⟩
  · have ha : argsOf fn ps = none := by
      unfold argsOf
      have hc' : ¬ (fn.np ≤ ps.length ∧ ps.length ≤ lim) := fun z => hc (by simp [z.1, z.2])
      simp [hst]
      intro z
      omega
    rw [ha] at hP
    exact hP.elim
end
/-- the script, by value -/
def scrV (ns : List Int) : PV := .ex scrN (ns.map .int)
theorem rvs_ints {G : Rt} {F : Hp} {ρ : List Addr} : ∀ ns : List Int, rvs G F ρ (ns.map PV.int) (ns.map V.int)
  | [] => by unfold rvs; rfl
  | n :: r => by
    show rvs G F ρ (PV.int n :: r.map PV.int) (V.int n :: r.map V.int)
    unfold rvs
    exact ⟨_, _, rfl, by unfold rv; rfl, rvs_ints r⟩
/-- what the law's def promises at the script -/
theorem law_sp {G : Rt} {H : Hp} {a : Addr} {ns : List Int} {g : List PV → Store → R PV} {S' : Store} (hS : SqL G.K H a (ns.map V.int)) (h : g [scrV ns] [] = .ok (.bl true) S') : spC G g [.ref a] H (fun v _ => v = .bl true) fun _ _ _ => False := by
  refine ⟨H, [], [], [scrV ns], ⟨Same.refl _, rfl, fun i c a h => by simp at h, fun i c a h => by simp at h, List.nodup_nil⟩, rvs1 ?_, ?_⟩
  · unfold scrV rv
    exact ⟨rfl, a, _, rfl, hS, rvs_ints ns⟩
  · rw [h]
    intro F' ρ' H' v x s q
    exact rv_bl q
end Ev
set_option Elab.async false
set_option linter.all false
set_option maxRecDepth 100000
set_option maxHeartbeats 1000000
/-! E30: the law's call, at the heap behind the top. -/
namespace Ev
open PySem L2
open PySem.Spec PyProof.Rows

theorem law_callG {P : Program} {w : World} {K : PySem.W.Frag} {mg mb : Str → Option Value} {k : Nat} {fa a : Addr} {sp : Sp} {s₁ : Shared} {vs : List Value} {ns : List Int}
    (KX : K.In s₁.heap) (hns : s₁.heap.Ns mainGlobals mg) (hb : s₁.heap.Ns builtinsNs mb) (hbb : ∀ x : Str, x ≠ "__name__" → mb x = bootBuiltins x) (hlim : s₁.heap.NoLimit) (hg : s₁.gens = #[])
    (ha : s₁.heap.get? a = some { cls := .type "list", data := .seq vs.toArray }) (hi : IntsAre vs ns) (hl : ns.length ≤ sizeLine) (hr : Room k callerA)
    (F : ∀ base : Heap, K.In base → base.Ns mainGlobals mg → FnG P w K mg base k fa sp)
    (hsp : ∀ H : Hp, Only H → SqL K H a (ns.map V.int) → sp [.ref a] H (fun v _ => v = .bl true) fun _ _ _ => False) :
    codeAny (model P w) callerA (.call (.ref fa) ⟨[.ref a], []⟩) (fun r s' => r = .ok (.ret (.bool true)) ∧ OldK s₁.heap s'.heap ∧ s'.os = s₁.os ∧ AllBare s'.gens) s₁ := by
  have rv' := vals_ints hi
  have lenV := hi.length
  have core : ∀ H : Hp, Only H → SqL K H a (ns.map V.int) → HOk P w H s₁.heap → (∀ b, H b ≠ none → b = a) → (H a ≠ none → K.lookup a = none) →
      codeAny (model P w) callerA (.call (.ref fa) ⟨[.ref a], []⟩) (fun r s' => r = .ok (.ret (.bool true)) ∧ OldK s₁.heap s'.heap ∧ s'.os = s₁.os ∧ AllBare s'.gens) s₁ := by
    intro H hO hS hok hA hK
    have at_a : ∀ {b : Addr} {u : HO}, H b = some u → b = a := fun {b u} q => hA b (by rw [q]; simp)
    have hid : ∀ {b : Addr} {o : Obj}, s₁.heap.get? b = some o → H b = none → (hidT s₁.heap H).get? b = some o := fun e n => hidT_get e n
    have nodict : ∀ {b : Addr} {o : Obj} {es : Array DictEntry} {ep : Nat}, s₁.heap.get? b = some o → o.data = .dict es ep → H b = none := fun {b o es ep} e d => by
      cases q : H b with
      | none => rfl
      | some u =>
        have e' := at_a q
        subst e'
        rw [ha] at e; cases e
        cases (show Data.seq vs.toArray _ = Data.dict es ep from d)
    have nsK : ∀ {b : Addr} {m : Str → Option Value}, s₁.heap.Ns b m → (hidT s₁.heap H).Ns b m := fun {b m} ⟨o, es, ep, e, d, r⟩ => ⟨o, es, ep, hid e (nodict e d), d, r⟩
    have hKb : K.In (hidT s₁.heap H) := fun b o e => hid (KX b o e) (by
      cases q : H b with
      | none => rfl
      | some u =>
        have e' := at_a q
        subst e'
        rw [hK (by rw [q]; simp)] at e; cases e)
    have hM : Mod K mg (hidT s₁.heap H) := ⟨hKb, nsK hns, ⟨mb, nsK hb, hbb⟩, let ⟨mc, h1, h2⟩ := hlim; ⟨mc, nsK h1, h2⟩⟩
    have e0 : Env0 P w K mg (hidT s₁.heap H) callerA [] s₁ H := ⟨rfl, hM, fun b o e => of_hidT e, Nat.le_of_eq (hidT_size _ _), trivial, fun b hb => absurd (show b ∈ ([] : List Addr) from hb) (by simp), hok, .of_eq hg⟩
    refine codeAny_mono (F _ hKb (nsK hns) callerA [] s₁ H [.ref a] [] [.ref a] [.ref a] _ _ hr rfl e0 (.inl ⟨rfl, rfl⟩) (.cons rfl .nil) (hsp H hO hS)) fun r s' h => ?_
    cases r with
    | error e => exact False.elim h
    | ok fl =>
      cases fl with
      | next => exact False.elim h
      | brk => exact False.elim h
      | cont => exact False.elim h
      | ret u =>
        obtain ⟨v, H', os, bare, un, hok', r', q⟩ := h
        cases (show v = .bl true from q)
        cases (show u = Value.bool true from r')
        refine ⟨rfl, OldK.of_keep fun b o e => ?_, os, bare⟩
        rcases hO b with z | ⟨ob, xs, z⟩
        · exact un.keep b o e z (by intro z; exact absurd (show b ∈ ([] : List Addr) from z) (by simp)) (by simp)
        · obtain ⟨e1, _⟩ := hok b _ z
          obtain ⟨e2, _⟩ := hok' b _ (un.frzs b ob _ z)
          rw [e] at e1; cases e1
          exact e2
  cases hk : K.lookup a with
  | some o =>
    have e := KX a o hk
    rw [ha] at e
    cases e
    exact core (fun _ => none) (fun _ => .inl rfl) (.inr ⟨_, vs.toArray, _, hk, rfl, rfl, rfl, by rw [List.size_toArray, lenV]; exact hl, by simpa using rv'⟩) (fun b u z => by cases (show (none : Option HO) = some u from z)) (fun b z => absurd rfl z) fun z => absurd rfl z
  | none =>
    refine core (fun b => if b = a then some (.frz { cls := .type "list", data := .seq vs.toArray } (.lst (ns.map V.int))) else none) (fun b => ?_) (.inl (.inr ⟨{ cls := .type "list", data := .seq vs.toArray }, if_pos rfl⟩)) (fun b u z => ?_) (fun b z => ?_) fun _ => hk
    · by_cases hb : b = a
      · exact .inr ⟨_, _, if_pos hb⟩
      · exact .inl (if_neg hb)
    · by_cases hb : b = a
      · cases (if_pos hb).symm.trans z
        subst hb
        exact ⟨ha, by rw [List.length_map]; exact hl, vs, _, rv', ha⟩
      · cases (if_neg hb).symm.trans z
    · by_cases hb : b = a
      · exact hb
      · exact absurd (if_neg hb) z
/-- the law, from its def's promise at every script -/
theorem walk_ofG {l : PySem.W.OpenLaw} {n k : Nat} {q : Program} {loose : List Str} {XP : (Str → Option Value) → Heap → Prop} {YP : World → Heap → Prop} {d : DefRec} {K : Params → PySem.W.Frag} {sp : World → Sp}
    (hn : l.most = some n) (hn2 : n ≤ sizeLine) (hdf : d.params.defaults = []) (hr : Room k callerA)
    (hY : ∀ (w : World) (h : Heap), YP w h → (K w.params).In h)
    (F : ∀ (w : World) (mg : Str → Option Value) (fa : Addr) (h : Heap), (K w.params).In h → h.Ns mainGlobals mg → mg d.name = some (.ref fa) →
      ∀ base : Heap, (K w.params).In base → base.Ns mainGlobals mg → FnG l.prog w (K w.params) mg base k fa (sp w))
    (hsp : ∀ (w : World) (H : Hp) (a : Addr) (ns : List Int), ns.length ≤ n → (∀ z ∈ ns, Builtin.Int.intBits z ≤ 1048576) → Only H → SqL (K w.params) H a (ns.map V.int) → sp w [.ref a] H (fun v _ => v = .bl true) fun _ _ _ => False) :
    PySem.W.WalkO q loose XP YP l.row.toRowW d [] (fun f vs => PySem.call f vs) := by
  refine Att.attach_callB hn hdf fun w s₀ s₁ mg mb fa o pm cd doc a vs ns G Y ho hd hcd hmg hobj hints hlen hbits hg => ?_
  exact law_callG (hY w _ Y) G.T.g G.T.b G.T.builtins G.T.nolimit hg hobj hints (Nat.le_trans hlen hn2) hr (F w mg fa _ (hY w _ Y) G.T.g hmg) fun H hO hS => hsp w H a ns hlen hbits hO hS
end Ev
set_option Elab.async false
set_option linter.all false
set_option maxRecDepth 100000
set_option maxHeartbeats 1000000
/-! E31: what the text's top has left, def by def. -/
namespace Ev
open PySem L2
open PySem.Spec PyProof.Rows

/-- a def of the module -/
structure DefAt (K : PySem.W.Frag) (name : Str) (st : Stmt) (f : Addr) (fd : FuncData) : Prop where
  at_ : PySem.W.nsIn K mainGlobals name = some (some (.ref f))
  fn : L2.Fun K name name st f fd
theorem def_at {K : PySem.W.Frag} {name : Str} {st : Stmt} {f : Addr} {oc : Value} {od an : Option Addr} {osl : Array (Option Value)} {kV doc pm cdv ct : Value} {h : Heap} (_ : K.In h) (a : PySem.W.nsIn K mainGlobals name = some (some (.ref f)))
    (l : K.lookup f = some ⟨oc, od, .func (PySem.W.fnOf name name (defArgs st) (defBody st) (defScope st) .none kV doc pm an cdv ct), osl⟩) (c : PySem.W.codeIn K cdv name = true) (k : PySem.W.keepIn K (.ref f) = true) : ∃ f fd, DefAt K name st f fd :=
  ⟨f, _, a, fun_mk l c k⟩
/-- a def of a class -/
structure MetAt (K : PySem.W.Frag) (C : Addr) (name qual : Str) (st : Stmt) (f : Addr) (fd : FuncData) : Prop where
  at_ : Meth K C name f
  fn : L2.Fun K name qual st f fd
theorem met_at {K : PySem.W.Frag} {C : Addr} {name qual : Str} {st : Stmt} {f : Addr} {oc : Value} {od an : Option Addr} {osl : Array (Option Value)} {kV doc pm cdv ct : Value} {h : Heap} (_ : K.In h) (a : PySem.W.findIn K (.ref C) name = some (some (.ref f))) (i : PySem.W.isFn K (.ref f) = true)
    (l : K.lookup f = some ⟨oc, od, .func (PySem.W.fnOf name qual (defArgs st) (defBody st) (defScope st) .none kV doc pm an cdv ct), osl⟩) (c : PySem.W.codeIn K cdv qual = true) (k : PySem.W.keepIn K (.ref f) = true) : ∃ f fd, MetAt K C name qual st f fd :=
  ⟨f, _, ⟨a, i, k⟩, fun_mk l c k⟩
theorem cls_at {K : PySem.W.Frag} {name : Str} {C : Addr} {h : Heap} (_ : K.In h) (a : PySem.W.nsIn K mainGlobals name = some (some (.ref C))) : ∃ C, PySem.W.nsIn K mainGlobals name = some (some (.ref C)) := ⟨C, a⟩
end Ev
set_option Elab.async false
set_option linter.all false
set_option maxRecDepth 100000
set_option maxHeartbeats 1000000
namespace Ev
open PySem L2
open PyProof.Rows hiding St
def argB (ps : List Str) (star : Option Str) (a : Arguments) : Bool := a.posonlyargs.isEmpty && decide (a.args.map (·.arg) = ps) && decide (a.vararg.map (·.arg) = star) && a.kwonlyargs.isEmpty && a.kwarg.isNone
theorem lookup_zip_some {ps : List Str} : ∀ {us : List Value}, us.length = ps.length → ∀ n ∈ ps, ∃ v, (ps.zip us).lookup n = some v := by
  induction ps with
  | nil => intro us _ n h; cases h
  | cons p r ih =>
    intro us hl n h
    cases us with
    | nil => cases hl
    | cons u q =>
      rw [List.zip_cons_cons, List.lookup_cons]
      by_cases hn : (n == p) = true
      · rw [hn]; exact ⟨_, rfl⟩
      · have hn' : (n == p) = false := by simpa using hn
        rw [hn']
        rcases List.mem_cons.mp h with e | h
        · subst e; simp at hn
        · exact ih (by simpa using hl) n h
theorem zip_filterMap {ps : List Str} (nd : ps.Nodup) : ∀ {us : List Value}, us.length = ps.length → (ps.filterMap fun n => ((ps.zip us).lookup n).map fun v => (n, v)) = ps.zip us := by
  induction ps with
  | nil => intro us _; rfl
  | cons p r ih =>
    intro us hl
    cases us with
    | nil => cases hl
    | cons u q =>
      have nd' := List.nodup_cons.mp nd
      rw [List.zip_cons_cons, List.filterMap_cons, List.lookup_cons_self]
      show (p, u) :: (r.filterMap fun n => (((p, u) :: r.zip q).lookup n).map fun v => (n, v)) = _
      have key : ∀ l : List Str, (∀ n ∈ l, n ≠ p) → (l.filterMap fun n => (((p, u) :: r.zip q).lookup n).map fun v => (n, v)) = l.filterMap fun n => ((r.zip q).lookup n).map fun v => (n, v) := fun l hl => by
        induction l with
        | nil => rfl
        | cons n l il =>
          have : (n == p) = false := by
            simp only [beq_eq_false_iff_ne]
            exact hl n List.mem_cons_self
          rw [List.filterMap_cons, List.filterMap_cons, List.lookup_cons, this, il fun m hm => hl m (List.mem_cons_of_mem _ hm)]
      rw [key r (fun n hn e => nd'.1 (e ▸ hn)), ih nd'.2 (by simpa using hl)]
theorem loop_same {slots : List (Str × Value)} : ∀ (l : List (Str × Value)), (∀ q ∈ l, (slots.lookup q.1).isSome = true) → (forIn l slots fun x s => if (s.lookup x.1).isNone = true then (pure (ForInStep.yield (s ++ [(x.1, x.2)])) : Sem _) else pure (ForInStep.yield s)) = pure slots
  | [], _ => by simp only [List.forIn_nil]
  | q :: r, h => by
    have hq := h q List.mem_cons_self
    have : (slots.lookup q.1).isNone = false := by
      cases hz : slots.lookup q.1 with
      | none => rw [hz] at hq; cases hq
      | some v => rfl
    rw [List.forIn_cons]
    rw [if_neg (by rw [this]; simp)]
    simp only [pure_bind]
    exact loop_same r fun z hz => h z (List.mem_cons_of_mem _ hz)
theorem bind_shape {fd : FuncData} {ps : List Str} (h : argB ps none fd.params = true) (nd : ps.Nodup) {us : List Value} (hl : us.length = ps.length) : ∃ k, bindArgs fd ⟨us, []⟩ = (seqItems? fd.defaults >>= k) ∧ ∀ d, k d = pure (ps.zip us) := by
  obtain ⟨h, h5⟩ := and2 h
  obtain ⟨h, h4⟩ := and2 h
  obtain ⟨h, h3⟩ := and2 h
  obtain ⟨h1, h2⟩ := and2 h
  have e1 := List.isEmpty_iff.mp h1
  have e2 := of_decide_eq_true h2
  have e3 : fd.params.vararg = none := by simpa using of_decide_eq_true h3
  have e4 := List.isEmpty_iff.mp h4
  have e5 := Option.isNone_iff_eq_none.mp h5
  have g1 : ¬ (decide (us.length > ps.length) && (none : Option Arg).isNone) = true := by simp [hl]
  unfold bindArgs
  simp only [e1, e2, e3, e4, e5, List.map_nil, List.nil_append, List.append_nil, pure_bind, List.forIn_nil]
  refine ⟨_, rfl, fun d => ?_⟩
  have g2 : ∀ m : Nat, ((ps.take m).filter fun n => ((ps.zip us).lookup n).isNone) = [] := fun m => by
    rw [List.filter_eq_nil_iff]
    intro n hn
    obtain ⟨v, hv⟩ := lookup_zip_some hl n (List.mem_of_mem_take hn)
    rw [hv]; simp
  have g3 : ∀ (m : Nat) (ds : List Value), (forIn ((ps.drop m).zip ds) (ps.zip us) fun x s => if (s.lookup x.1).isNone = true then (pure (ForInStep.yield (s ++ [(x.1, x.2)])) : Sem _) else pure (ForInStep.yield s)) = pure (ps.zip us) := fun m ds => loop_same _ fun q hq => by
    obtain ⟨v, hv⟩ := lookup_zip_some hl q.1 (List.mem_of_mem_drop (List.of_mem_zip hq).1)
    rw [hv]; rfl
  simp only [if_neg g1, g2, List.isEmpty_nil, Bool.not_true, Bool.false_eq_true, if_false, g3, pure_bind, List.forIn_nil, zip_filterMap nd hl]
theorem bind_plain {K : PySem.W.Frag} {s : Shared} {fd : FuncData} {ps : List Str} (X : K.In s.heap) (h : argB ps none fd.params = true) (hd : fd.defaults = .none ∨ ∃ (T : Addr) (o : Obj) (its : Array Value) (n : Nat), fd.defaults = .ref T ∧ K.lookup T = some o ∧ o.data = .seq its n) (nd : ps.Nodup) {us : List Value} (hl : us.length = ps.length) :
    BindsTo s fd ⟨us, []⟩ (ps.zip us) := by
  obtain ⟨k, e, hk⟩ := bind_shape h nd hl
  rcases hd with hd | ⟨T, o, its, n, hd, ho, hs⟩
  · refine BindsTo.of_eq ?_
    rw [e, hd, show seqItems? Value.none = pure none from rfl, pure_bind, hk]
  · exact PySem.W.binds_K X hd ho hs e (hk _)
theorem zip_more {ps : List Str} : ∀ {us rest : List Value}, us.length = ps.length → ps.zip (us ++ rest) = ps.zip us := by
  induction ps with
  | nil => intro us rest _; rfl
  | cons p r ih =>
    intro us rest hl
    cases us with
    | nil => cases hl
    | cons u q =>
      rw [List.cons_append, List.zip_cons_cons, List.zip_cons_cons, ih (by simpa using hl)]
theorem bind_star {fd : FuncData} {ps : List Str} {pv : Str} (h : argB ps (some pv) fd.params = true) (hd : fd.defaults = .none) (nd : ps.Nodup) {us rest : List Value} (hl : us.length = ps.length) : bindArgs fd ⟨us ++ rest, []⟩ = (newTuple rest >>= fun t => pure (ps.zip us ++ [(pv, t)])) := by
  obtain ⟨h, h5⟩ := and2 h
  obtain ⟨h, h4⟩ := and2 h
  obtain ⟨h, h3⟩ := and2 h
  obtain ⟨h1, h2⟩ := and2 h
  have e1 := List.isEmpty_iff.mp h1
  have e2 := of_decide_eq_true h2
  obtain ⟨av, e3, e3'⟩ : ∃ a, fd.params.vararg = some a ∧ a.arg = pv := by
    have := of_decide_eq_true h3
    cases hv : fd.params.vararg with
    | none => rw [hv] at this; cases this
    | some a => rw [hv] at this; exact ⟨a, rfl, by simpa using this⟩
  have e4 := List.isEmpty_iff.mp h4
  have e5 := Option.isNone_iff_eq_none.mp h5
  unfold bindArgs
  rw [hd]
  simp only [e1, e2, e3, e4, e5, List.map_nil, List.nil_append, List.append_nil]
  have es : seqItems? Value.none = pure none := by rfl
  have g2 : ((ps.take (ps.length - ([] : List Value).length)).filter fun n => ((ps.zip us).lookup n).isNone) = [] := by
    rw [List.filter_eq_nil_iff]
    intro n hn
    obtain ⟨v, hv⟩ := lookup_zip_some hl n (List.mem_of_mem_take hn)
    rw [hv]; simp
  have g3 : (us ++ rest).drop ps.length = rest := by rw [← hl]; simp
  simp only [es, pure_bind, List.forIn_nil, Option.getD_none, Option.isNone_some, Bool.and_false, zip_more hl, g2, g3, e3', List.isEmpty_nil, Bool.not_true, Bool.false_eq_true, if_false, List.drop_nil, List.zip_nil_right, zip_filterMap nd hl]
/-- the scope of a def whose parameters are P and whose names are N -/
def scopeB (N P : List Str) (sc : Scope) : Bool := (match sc.kind with
  | .function => true
  | _ => false) && !sc.isCoroutine && !sc.isGenerator && decide N.Nodup && decide (N.take P.length = P) && (P.all fun x => match sc.names.lookup x with
  | some .local => true
  | some .cell => true
  | _ => false) && sc.names.all fun y => match y.2 with
  | .free => false
  | _ => true
theorem scope_of {N P : List Str} {sc : Scope} (h : scopeB N P sc = true) : FnScope N P sc := by
  obtain ⟨h, h7⟩ := and2 h
  obtain ⟨h, h6⟩ := and2 h
  obtain ⟨h, h5⟩ := and2 h
  obtain ⟨h, h4⟩ := and2 h
  obtain ⟨h, h3⟩ := and2 h
  obtain ⟨h1, h2⟩ := and2 h
  refine ⟨?_, not_of h2, not_of h3, of_decide_eq_true h4, of_decide_eq_true h5, fun x hx => ?_, fun y hy e => ?_⟩
  · cases hk : sc.kind <;> rw [hk] at h1 <;> first | rfl | cases h1
  · have := List.all_eq_true.mp h6 x hx
    split at this
    · rename_i e; exact .inl e
    · rename_i e; exact .inr e
    · cases this
  · have := List.all_eq_true.mp h7 y hy
    rw [e] at this
    cases this
/-- a def's form, and that its term says what its text says -/
def defB (A : Stc) (fi : FI) (fn : Fn) : Bool := argB fi.ps fi.star (defArgs fi.st) && scopeB fi.N fi.all (defScope fi.st) && (fn.star == fi.star.isSome) && (fn.np == fi.ps.length) && (fi.N.length == fn.slots) && decide fi.ps.Nodup && (chk A fn.body).s fi.Γ (defBody fi.st)
def defsB (A : Stc) : List FI → List Fn → Bool
  | [], [] => true
  | fi :: r, fn :: q => defB A fi fn && defsB A r q
  | _, _ => false
theorem defs_get {A : Stc} : ∀ {fis : List FI} {fns : List Fn}, defsB A fis fns = true → ∀ {i : Nat} {fn : Fn}, fns[i]? = some fn → ∃ fi, fis[i]? = some fi ∧ defB A fi fn = true
  | [], [], _, i, fn, e => by simp at e
  | [], _ :: _, h, _, _, _ => by cases h
  | _ :: _, [], h, _, _, _ => by cases h
  | fi :: r, fn :: q, h, i, fn', e => by
    obtain ⟨h1, h2⟩ := and2 h
    cases i with
    | zero => cases e; exact ⟨fi, rfl, h1⟩
    | succ i => exact defs_get h2 e
section
variable {A : Stc} {G : Rt} {fa : Nat → Addr} {P : Program} {w : World} {mg : Str → Option Value} {base : Heap}
/-- all defs, at all levels -/
theorem all_defs {fis : List FI} (X : Txf A G fa mg w) (hB : defsB A fis A.T.fns = true) (hF : ∀ i fi, fis[i]? = some fi → ∃ fd, FunX G.K fi.name fi.qual fi.st (fa i) fd ∧ (fi.star.isSome = true → fd.defaults = .none)) :
    ∀ m f, FnG P w G.K mg base (2 * m) (fa f) (spC G (callN A.T m f)) := by
  intro m
  induction m with
  | zero => intro f; exact fn_zero f
  | succ m ih =>
    intro f
    cases hf : A.T.fns[f]? with
    | none => exact fn_out hf
    | some fn =>
      obtain ⟨fi, hfi, hb⟩ := defs_get hB hf
      obtain ⟨fd, Fn, hst⟩ := hF f fi hfi
      obtain ⟨hb, h7⟩ := and2 hb
      obtain ⟨hb, h6⟩ := and2 hb
      obtain ⟨hb, h5⟩ := and2 hb
      obtain ⟨hb, h4⟩ := and2 hb
      obtain ⟨hb, h3⟩ := and2 hb
      obtain ⟨h1, h2⟩ := and2 hb
      have nd := of_decide_eq_true h6
      have e3 : fn.star = fi.star.isSome := by simpa using h3
      have e4 : fn.np = fi.ps.length := by simpa using h4
      have e5 : fi.N.length = fn.slots := by simpa using h5
      have hps : (defArgs fi.st).args.map (·.arg) = fi.ps := by
        obtain ⟨h, _⟩ := and2 h1
        obtain ⟨h, _⟩ := and2 h
        obtain ⟨h, _⟩ := and2 h
        exact of_decide_eq_true (and2 h).2
      have ex := Fn.ex
      obtain ⟨oc, od, dV, kV, doc, pm, an, cdv, ct, osl, efd, lk, hcd, hdf⟩ := ex
      cases hs : fi.star with
      | none =>
        rw [hs] at e3 h1
        refine fn_step X Fn (scope_of h2) (fun s us KX hl => bind_plain (fd := fd) KX ?_ ?_ nd hl) hps hf e3 hs e4 e5 h7 ih
        · rw [efd]; exact h1
        · rw [efd]; exact hdf
      | some pv =>
        rw [hs] at e3 h1
        refine fn_stepS (pv := pv) X Fn (scope_of h2) ?_ (fun us rest hl => bind_star (fd := fd) ?_ ?_ nd hl) hf e3 hs e4 e5 h7 ih
        · obtain ⟨h, _⟩ := and2 h1
          obtain ⟨h, _⟩ := and2 h
          have := of_decide_eq_true (and2 h).2
          cases hv : (defArgs fi.st).vararg with
          | none => rw [hv] at this; cases this
          | some a => rfl
        · rw [efd]; exact h1
        · rw [efd]
          have := hst (by rw [hs]; rfl)
          rw [efd] at this
          exact this
end
end Ev
set_option Elab.async false
set_option linter.all false
set_option maxRecDepth 100000
set_option maxHeartbeats 1000000
/-! E33: what is to be known of the text, in lists; the law's end. -/
namespace Ev
open PySem L2
open PyProof.Rows hiding St

def AllL {α : Type} (p : α → Prop) : List α → Prop
  | [] => True
  | x :: r => p x ∧ AllL p r
theorem allL_of {α : Type} {p : α → Prop} : ∀ {l : List α}, AllL p l → ∀ x ∈ l, p x
  | [], _, x, h => by cases h
  | y :: r, h, x, hx => by
    rcases List.mem_cons.mp hx with rfl | hx
    · exact h.1
    · exact allL_of h.2 x hx
def AllI {α : Type} (p : Nat → α → Prop) : Nat → List α → Prop
  | _, [] => True
  | i, x :: r => p i x ∧ AllI p (i + 1) r
theorem allI_of {α : Type} {p : Nat → α → Prop} : ∀ {l : List α} {k : Nat}, AllI p k l → ∀ {i : Nat} {x : α}, l[i]? = some x → p (k + i) x
  | [], _, _, i, x, h => by simp at h
  | y :: r, k, h, 0, x, hx => by cases hx; exact h.1
  | y :: r, k, h, i + 1, x, hx => by
    have := allI_of h.2 (i := i) (x := x) hx
    rw [show k + (i + 1) = k + 1 + i from by omega]
    exact this
/-- what the parts say of the text's own class c -/
structure ClsF (A : Stc) (K : PySem.W.Frag) (fas Cs : List Addr) (c : Nat) (kl : Cls) : Prop where
  cl : L2.Cls K (Cs.getD c 0)
  made : Mk K (Cs.getD c 0) (fas.getD kl.init 0)
  fld : AllL (fun n => NoAttr K (Cs.getD c 0) (A.nm n)) kl.fields
  nd : (kl.fields.map A.nm).Nodup
  len : kl.fields.length < 1000
  met : AllL (fun (q : Nat × Nat) => PySem.W.findIn K (.ref (Cs.getD c 0)) (A.nm q.1) = some (some (.ref (fas.getD q.2 0))) ∧ PySem.W.isFn K (.ref (fas.getD q.2 0)) = true ∧ PySem.W.keepIn K (.ref (fas.getD q.2 0)) = true) kl.meths
  mno : (kl.meths.all fun q => !(kl.fields.map A.nm).contains (A.nm q.1)) = true
  prop : AllL (fun (q : Nat × Nat) => ∃ p, PropOf K (Cs.getD c 0) (A.nm q.1) p (fas.getD q.2 0)) kl.props
  sf : PySem.W.selfFirst K (Cs.getD c 0) = true
  ne : PySem.W.findIn K (.ref (Cs.getD c 0)) "__ne__" = some (some (.builtin "object.__ne__"))
  ob : PySem.W.mroIn K (Cs.getD c 0) (.type "object") = some true
  fm : PySem.W.findIn K (.ref (Cs.getD c 0)) "__format__" = some (some (.builtin "object.__format__"))
  nf : AllI (fun d (_ : Cls) => PySem.W.notFirst K (Cs.getD c 0) (.ref (Cs.getD d 0)) = true) 0 A.T.cls
  ha : PySem.W.findIn K (.ref (Cs.getD c 0)) "__class__" = some (some (.builtin "object.__class__"))
  hn : PySem.W.specialIn K (.builtin "object.__class__") "__get__" = some (some (.builtin "getset_descriptor.__get__"))
  htk : PySem.W.takesIn K (.builtin "object.__class__") = some true
  own : AllI (fun d (_ : Cls) => PySem.W.kitOne K (.ref (Cs.getD c 0)) (.ref (Cs.getD d 0)) = some (d == c)) 0 A.T.cls
  blt : AllL (fun T => PySem.W.kitOne K (.ref (Cs.getD c 0)) (.type T) = some false) ["int", "str", "bool", "tuple", "list"]
  of_ : AllL (fun T => PySem.W.kitOne K (.type T) (.ref (Cs.getD c 0)) = some false) ["NoneType", "int", "str", "bool", "tuple", "list"]
  cm : AllL (fun (q : Nat × Nat) => ∃ mc p, ClX.CRead K (Cs.getD c 0) mc ∧ ClX.CMet K (Cs.getD c 0) mc (A.nm q.1) p (fas.getD q.2 0)) kl.cms
def rtOf (A : Stc) (K : PySem.W.Frag) (Cs : List Addr) : Rt := ⟨K, A.nm, fun c => Cs.getD c 0, A.T⟩
structure Facts (A : Stc) (K : PySem.W.Frag) (w : World) (fas Cs : List Addr) : Prop where
  fn : AllL (fun (q : Str × Nat) => PySem.W.nsIn K mainGlobals q.1 = some (some (.ref (fas.getD q.2 0))) ∧ PySem.W.keepIn K (.ref (fas.getD q.2 0)) = true) A.gf
  cls : AllL (fun (q : Str × Nat) => PySem.W.nsIn K mainGlobals q.1 = some (some (.ref (Cs.getD q.2 0)))) A.gc
  gl : AllL (fun (q : Str × Nat) => ∃ p v u, A.T.globs[q.2]? = some p ∧ PySem.W.nsIn K mainGlobals q.1 = some (some u) ∧ RelV v u ∧ rv (rtOf A K Cs) (fun _ => none) [] p v) A.gg
  gd : AllL (fun (q : Str × Nat) => ∃ p u, A.T.globs[q.2]? = some p ∧ PySem.W.nsIn K mainGlobals q.1 = some (some u) ∧ KdOk (rtOf A K Cs) w u p) A.gd
  bl : AllL (fun (x : Str) => PySem.W.nsIn K mainGlobals x = some none) A.bl
  cl : AllI (ClsF A K fas Cs) 0 A.T.cls
  kw : AllL (fun ki => KwOk (rtOf A K Cs) (fun i => fas.getD i 0) ki) A.T.kws
  nm : (A.nm nEq = "__eq__" ∧ A.nm nLen = "__len__" ∧ A.nm nStr = "__str__" ∧ A.nm nRepr = "__repr__" ∧ A.nm nIn = "__contains__") ∧ A.nm nNeg = "__neg__" ∧ A.nm nBool = "__bool__" ∧ A.nm 8 = "__add__" ∧ A.nm 9 = "__sub__" ∧ A.nm 10 = "__mul__" ∧ A.nm 11 = "__or__" ∧ A.nm 12 = "__and__"
def FunsAt (K : PySem.W.Frag) : List FI → List Addr → Prop
  | [], [] => True
  | fi :: r, a :: q => (∃ fd, FunX K fi.name fi.qual fi.st a fd ∧ (fi.star.isSome = true → fd.defaults = .none)) ∧ FunsAt K r q
  | _, _ => False
theorem funs_get {K : PySem.W.Frag} : ∀ {fis : List FI} {as : List Addr}, FunsAt K fis as → ∀ {i : Nat} {fi : FI}, fis[i]? = some fi → ∃ fd, FunX K fi.name fi.qual fi.st (as.getD i 0) fd ∧ (fi.star.isSome = true → fd.defaults = .none)
  | [], [], _, i, fi, e => by simp at e
  | [], _ :: _, h, _, _, _ => h.elim
  | _ :: _, [], h, _, _, _ => h.elim
  | fi :: r, a :: q, h, 0, fi', e => by cases e; exact h.1
  | fi :: r, a :: q, h, i + 1, fi', e => funs_get h.2 e
theorem memLk {β : Type} {n : Nat} {f : β} : ∀ {l : List (Nat × β)}, l.lookup n = some f → (n, f) ∈ l
  | [], h => by cases h
  | (a, b) :: r, h => by
    rw [List.lookup_cons] at h
    by_cases e : (n == a) = true
    · rw [e] at h
      cases h
      have : n = a := by simpa using e
      subst this
      exact List.mem_cons_self
    · have e' : (n == a) = false := by simpa using e
      rw [e'] at h
      exact List.mem_cons_of_mem _ (memLk h)
section
variable {A : Stc} {K : PySem.W.Frag} {fas Cs : List Addr} {mg : Str → Option Value} {base : Heap} {P : Program} {w : World}
theorem txf_of (hKb : K.In base) (hns : base.Ns mainGlobals mg) (X : Facts A K w fas Cs) : Txf A (rtOf A K Cs) (fun i => fas.getD i 0) mg w := by
  have hcl : ∀ c kl, A.T.cls[c]? = some kl → ClsF A K fas Cs c kl := fun c kl h => by
    have := allI_of X.cl h
    rwa [Nat.zero_add] at this
  refine ⟨⟨rfl, fun n => rfl, fun x f h => ?_, fun x c h => ?_, fun x n h => ?_, fun x h => ?_, fun c kl h => ?_, fun x n h => ?_, fun j ki h => ?_, fun c kl n f h hm => ?_⟩, ?_, fun c kl h => ?_, fun c kl h => ?_⟩
  · have := allL_of X.fn (x, f) (by simpa using h)
    exact ⟨PySem.W.mg_of hKb hns this.1, this.2⟩
  · have := allL_of X.cls (x, c) (by simpa using h)
    exact PySem.W.mg_of hKb hns this
  · obtain ⟨p, v, u, e1, e2, e3, e4⟩ := allL_of X.gl (x, n) (by simpa using h)
    exact ⟨p, v, u, e1, PySem.W.mg_of hKb hns e2, e3, e4⟩
  · exact PySem.W.mg_none_of hKb hns (allL_of X.bl x (by simpa using h))
  · have F := hcl c kl h
    refine ⟨F.ha, F.hn, F.htk, F.ob, fun d kd hd => ?_, fun T hT => allL_of F.blt T hT, fun T hT => allL_of F.of_ T hT⟩
    have := allI_of F.own (i := d) (x := kd) hd
    rwa [Nat.zero_add] at this
  · obtain ⟨p, u, e1, e2, e3⟩ := allL_of X.gd (x, n) (by simpa using h)
    exact ⟨p, u, e1, PySem.W.mg_of hKb hns e2, e3⟩
  · exact allL_of X.kw ki (List.mem_of_getElem? h)
  · have F := hcl c kl h
    exact ⟨allL_of F.cm (n, f) (memLk hm)⟩
  · obtain ⟨⟨h1, h2, h3, h4, h5⟩, h6, h7, h8, h9, h10, h11, h12⟩ := X.nm
    exact ⟨h1, h2, h3, h4, h5, h6, h7, h8, h9, h10, h11, h12⟩
  · have F := hcl c kl h
    refine ⟨F.cl, F.made, fun n hn => allL_of F.fld n hn, F.nd, F.len, fun n f hm => ?_, fun n f hm => allL_of F.prop (n, f) (memLk hm), F.sf⟩
    have mem := memLk hm
    obtain ⟨m1, m2, m3⟩ := allL_of F.met (n, f) mem
    refine ⟨⟨m1, m2, m3⟩, fun hc => ?_⟩
    have := List.all_eq_true.mp F.mno (n, f) mem
    have hc' : (kl.fields.map A.nm).contains (A.nm n) = true := List.contains_iff_mem.mpr hc
    rw [hc'] at this
    cases this
  · have F := hcl c kl h
    refine ⟨F.ne, F.ob, F.fm, fun d kd hd => ?_⟩
    have := allI_of F.nf (i := d) (x := kd) hd
    rwa [Nat.zero_add] at this
end
/-- what the law's def promises: at any script of so many numbers it is True -/
def lawSp (K : PySem.W.Frag) (n : Nat) : Sp := fun vs H Q E => ∃ (a : Addr) (ns : List Int), vs = [.ref a] ∧ ns.length ≤ n ∧ (∀ z ∈ ns, Builtin.Int.intBits z ≤ 1048576) ∧ SqL K H a (ns.map V.int) ∧ ∀ H', Q (.bl true) H'
theorem FnG.weak {P : Program} {w : World} {K : PySem.W.Frag} {mg : Str → Option Value} {base : Heap} {k : Nat} {f : Addr} {sp sp' : Sp} (F : FnG P w K mg base k f sp) (h : ∀ vs H Q E, sp' vs H Q E → sp vs H Q E) : FnG P w K mg base k f sp' :=
  fun A outer s H us kw bs vs Q E hr hg e ar r z => F A outer s H us kw bs vs Q E hr hg e ar r (h _ _ _ _ z)
theorem law_fin {A : Stc} {fis : List FI} {K : PySem.W.Frag} {fas Cs : List Addr} {mg : Str → Option Value} {base : Heap} {P : Program} {w : World} {m law n : Nat} (hKb : K.In base) (hns : base.Ns mainGlobals mg)
    (hB : defsB A fis A.T.fns = true) (X : Facts A K w fas Cs) (FF : FunsAt K fis fas)
    (h : ∀ ns : List Int, ns.length ≤ n → (∀ z ∈ ns, Builtin.Int.intBits z ≤ 1048576) → ∃ S', callN A.T m law [scrV ns] [] = .ok (.bl true) S') : FnG P w K mg base (2 * m) (fas.getD law 0) (lawSp K n) := by
  have all := all_defs (P := P) (w := w) (base := base) (txf_of hKb hns X) hB (fun i fi e => funs_get FF e) m law
  refine FnG.weak all fun vs H Q E ⟨a, ns, e, hl, hb, hS, hQ⟩ => ?_
  subst e
  obtain ⟨S', hc⟩ := h ns hl hb
  refine ⟨H, [], [], [scrV ns], ⟨Same.refl _, rfl, fun i c a h => by simp at h, fun i c a h => by simp at h, List.nodup_nil⟩, rvs1 ?_, ?_⟩
  · unfold scrV rv
    exact ⟨rfl, a, _, rfl, hS, rvs_ints ns⟩
  · rw [hc]
    intro F' ρ' H' v x s q
    rw [rv_bl q]
    exact hQ H'
theorem kw_ok {G : Rt} {fa : Nat → Addr} {ki : Kwi} {name qual : Str} {st : Stmt} {fd : FuncData} (Fn : FunX G.K name qual st (fa ki.f) fd) (hdn : fd.defaults = .none) (hd : ki.d = []) (hva : (defArgs st).vararg.isNone = true)
    (hb : ∀ (kV doc pm : Value) (an : Option Addr) (cdv ct : Value) (us ws : List Value), us.length = ki.n → ws.length = ki.ks.length → (defArgs st).args.length = (permL ki.perm (us ++ ws ++ [])).length ∧ bindArgs (PySem.W.fnOf name qual (defArgs st) (defBody st) (defScope st) .none kV doc pm an cdv ct) ⟨us, ki.ks.zip ws⟩ = pure (((defArgs st).args.map (·.arg)).zip (permL ki.perm (us ++ ws ++ [])))) : KwOk G fa ki := by
  obtain ⟨oc, od, dV, kV, doc, pm, an, cdv, ct, osl, rfl, lk, hcd, _⟩ := Fn.ex
  obtain rfl : dV = .none := hdn
  refine ⟨[], [], by rw [hd]; unfold rvs; rfl, .nil, fun us ws h1 h2 => .inr ⟨_, _, _, _, lk, hva, ?_, fun s _ => ?_⟩⟩
  · exact (hb kV doc pm an cdv ct us ws h1 h2).1
  · exact BindsTo.of_eq (hb kV doc pm an cdv ct us ws h1 h2).2
theorem kit_self {K : PySem.W.Frag} {C : Addr} : PySem.W.kitOne K (.ref C) (.ref C) = some true := by
  unfold PySem.W.kitOne
  rw [if_pos (by simp)]
theorem kit_ref {K : PySem.W.Frag} {C D : Addr} {cd : ClassData} (hne : (C == D) = false) (hc : PySem.W.clsIn K D = some cd) (ht : PySem.W.typeIn K (.ref D) = some (.type "type")) (hm : PySem.W.mroIn K C (.ref D) = some false) : PySem.W.kitOne K (.ref C) (.ref D) = some false := by
  unfold PySem.W.kitOne
  have : ((Value.ref C == Value.ref D)) = false := by
    rw [beq_eq_false_iff_ne] at hne ⊢
    intro e; exact hne (by cases e; rfl)
  rw [this, if_neg (by simp)]
  unfold PySem.W.kitCls
  dsimp only
  rw [hc, ht, if_pos (by simp)]
  exact hm
theorem kit_bt {K : PySem.W.Frag} {C : Addr} {T : String} (hT : PySem.W.kitMeta T = true) (hm : PySem.W.mroIn K C (.type T) = some false) : PySem.W.kitOne K (.ref C) (.type T) = some false := by
  unfold PySem.W.kitOne
  rw [if_neg (by simp)]
  unfold PySem.W.kitCls
  dsimp only
  rw [if_pos hT]
  exact hm
theorem kit_of {K : PySem.W.Frag} {C : Addr} {T : String} {cd : ClassData} {l : List Value} (hc : PySem.W.clsIn K C = some cd) (ht : PySem.W.typeIn K (.ref C) = some (.type "type")) (h : fastBuiltinMro T = some l) (hl : l.contains (.ref C) = false) : PySem.W.kitOne K (.type T) (.ref C) = some false := by
  unfold PySem.W.kitOne
  rw [if_neg (by simp)]
  unfold PySem.W.kitCls
  dsimp only
  rw [hc, ht, if_pos (by simp)]
  unfold PySem.W.subIn
  dsimp only
  rw [h]
  show some (l.contains (.ref C)) = some false
  rw [hl]
theorem kit_ofs {K : PySem.W.Frag} {C : Addr} {cd : ClassData} (hc : PySem.W.clsIn K C = some cd) (ht : PySem.W.typeIn K (.ref C) = some (.type "type")) : AllL (fun T => PySem.W.kitOne K (.type T) (.ref C) = some false) ["NoneType", "int", "str", "bool", "tuple", "list"] :=
  ⟨kit_of (l := [.type "NoneType", .type "object"]) hc ht (by decide +kernel) rfl, kit_of (l := [.type "int", .type "object"]) hc ht (by decide +kernel) rfl, kit_of (l := [.type "str", .type "object"]) hc ht (by decide +kernel) rfl,
    kit_of (l := [.type "bool", .type "int", .type "object"]) hc ht (by decide +kernel) rfl, kit_of (l := [.type "tuple", .type "object"]) hc ht (by decide +kernel) rfl, kit_of (l := [.type "list", .type "object"]) hc ht (by decide +kernel) rfl, trivial⟩
/-- texts in a tuple of the text's constants -/
def strsV : List (List Nat) → List Value → Bool
  | [], [] => true
  | x :: r, .str y _ :: q => decide (sT x = y) && okS x && strsV r q
  | _, _ => false
theorem strsV_ok {G : Rt} {F : Hp} {ρ : List Addr} : ∀ {xs : List (List Nat)} {us : List Value}, strsV xs us = true → Vals (xs.map fun x => V.str (sT x)) us ∧ rvs G F ρ (xs.map PV.str) (xs.map fun x => V.str (sT x))
  | [], [], _ => ⟨.nil, by show rvs G F ρ [] []; unfold rvs; rfl⟩
  | [], _ :: _, h => by cases h
  | x :: r, [], h => by cases h
  | x :: r, u :: q, h => by
    cases u <;> first | cases h | skip
    rename_i y t
    obtain ⟨h, h3⟩ := and2 h
    obtain ⟨h1, h2⟩ := and2 h
    have e := of_decide_eq_true h1
    obtain ⟨a, b⟩ := strsV_ok (G := G) (F := F) (ρ := ρ) h3
    refine ⟨.cons ⟨t, by rw [e]⟩ a, ?_⟩
    show rvs G F ρ (PV.str x :: r.map PV.str) (V.str (sT x) :: r.map fun x => V.str (sT x))
    unfold rvs
    exact ⟨_, _, rfl, by unfold rv; exact ⟨rfl, h2⟩, b⟩
theorem gl_tupS {A : Stc} {K : PySem.W.Frag} {Cs : List Addr} {x : Str} {n : Nat} {a : Addr} {d : Option Addr} {its : Array Value} {sz : Nat} {sl : Array (Option Value)} {xs : List (List Nat)} (hn : A.T.globs[n]? = some (.tup (xs.map .str))) (hx : PySem.W.nsIn K mainGlobals x = some (some (.ref a)))
    (lk : K.lookup a = some ⟨.type "tuple", d, .seq its sz, sl⟩) (hv : (decide (its.size ≤ 1000) && strsV xs its.toList) = true) : ∃ p v u, A.T.globs[n]? = some p ∧ PySem.W.nsIn K mainGlobals x = some (some u) ∧ RelV v u ∧ rv (rtOf A K Cs) (fun _ => none) [] p v := by
  obtain ⟨h1, h2⟩ := and2 hv
  obtain ⟨r1, r2⟩ := strsV_ok (G := rtOf A K Cs) (F := fun _ => none) (ρ := []) h2
  refine ⟨_, .ref a, .ref a, hn, hx, rfl, ?_⟩
  unfold rv
  exact ⟨a, _, rfl, .inr ⟨_, its, sz, lk, rfl, rfl, Nat.le_trans (of_decide_eq_true h1) (by decide), r1⟩, r2⟩
/-- a dict of the module whose values are texts -/
def lookS (K : PySem.W.Frag) (d : Addr) : List (List Nat) → List (List Nat) → Bool
  | k :: ks, v :: vs => (match PySem.W.nsIn K d (sT k) with
    | some (some (.str y _)) => decide (y = sT v) && okS v
    | _ => false) && lookS K d ks vs
  | [], [] => true
  | _, _ => false
theorem lookS_ok {K : PySem.W.Frag} {G : Rt} (hK : G.K = K) {d : Addr} : ∀ {ks vs : List (List Nat)}, lookS K d ks vs = true → ∀ k p, lookT k ks (vs.map PV.str) = some p → ∃ u0 v0, PySem.W.nsIn G.K d (sT k) = some (some u0) ∧ RelV v0 u0 ∧ rv G (fun _ => none) [] p v0
  | [], [], _, k, p, h => by cases h
  | [], _ :: _, h, _, _, _ => by cases h
  | _ :: _, [], h, _, _, _ => by cases h
  | x :: r, y :: q, h, k, p, hl => by
    obtain ⟨h1, h2⟩ := and2 h
    have hl : (if (x == k) = true then some (PV.str y) else lookT k r (q.map PV.str)) = some p := hl
    by_cases e : (x == k) = true
    · rw [if_pos e] at hl
      cases hl
      have e' : x = k := by simpa using e
      subst e'
      split at h1
      · rename_i z t hz
        obtain ⟨h3, h4⟩ := and2 h1
        have := of_decide_eq_true h3
        subst this
        exact ⟨_, .str (sT y), by rw [hK]; exact hz, ⟨t, rfl⟩, by unfold rv; exact ⟨rfl, h4⟩⟩
      · cases h1
    · rw [if_neg e] at hl
      exact lookS_ok hK h2 k p hl
theorem gd_of {A : Stc} {K : PySem.W.Frag} {w : World} {Cs : List Addr} {x : Str} {n : Nat} {d : Addr} {es : Array DictEntry} {m : Nat} {ks vs : List (List Nat)} (hn : A.T.globs[n]? = some (.dct ks (vs.map .str))) (hx : PySem.W.nsIn K mainGlobals x = some (some (.ref d))) (kd : KDict K w d es m) (hl : lookS K d ks vs = true) :
    ∃ p u, A.T.globs[n]? = some p ∧ PySem.W.nsIn K mainGlobals x = some (some u) ∧ KdOk (rtOf A K Cs) w u p :=
  ⟨_, _, hn, hx, ⟨d, es, m, ks, _, rfl, rfl, kd, lookS_ok rfl hl⟩⟩
theorem gl_str {A : Stc} {K : PySem.W.Frag} {Cs : List Addr} {z : Str} {n : Nat} {x : List Nat} {y : Str} {t : Tok} (hn : A.T.globs[n]? = some (.str x)) (hy : sT x = y) (ho : okS x = true) (hx : PySem.W.nsIn K mainGlobals z = some (some (.str y t))) : ∃ p v u, A.T.globs[n]? = some p ∧ PySem.W.nsIn K mainGlobals z = some (some u) ∧ RelV v u ∧ rv (rtOf A K Cs) (fun _ => none) [] p v :=
  ⟨_, .str (sT x), _, hn, hx, ⟨t, by rw [hy]⟩, by unfold rv; exact ⟨rfl, ho⟩⟩
theorem gl_int {A : Stc} {K : PySem.W.Frag} {Cs : List Addr} {x : Str} {n : Nat} {i : Int} {t : Tok} (hn : A.T.globs[n]? = some (.int i)) (hx : PySem.W.nsIn K mainGlobals x = some (some (.int i t))) : ∃ p v u, A.T.globs[n]? = some p ∧ PySem.W.nsIn K mainGlobals x = some (some u) ∧ RelV v u ∧ rv (rtOf A K Cs) (fun _ => none) [] p v :=
  ⟨_, .int i, _, hn, hx, ⟨t, rfl⟩, by unfold rv; rfl⟩
end Ev
set_option Elab.async false
set_option linter.all false
set_option maxRecDepth 100000
set_option maxHeartbeats 1000000
/-! E34: the laws' own purse and its draws. -/
namespace Ev
open PySem

def seedC : C := (.set (.v 3) (.bin .mod (.blt .int (.cons (.bin .add (.bin .add (.bin .mul (.v 3) (.k (.int 48271))) (.bin .mod (.blt .int (.cons (.v 4) .nil)) (.k (.int 2147483647)))) (.k (.int 101))) .nil)) (.k (.int 2147483647))))
/-- the def _law_purse, as a term -/
def purseC : C :=
  (.seq (.set (.v 2) (.ite (.cmp .lt (.v 1) (.blt .len (.cons (.v 0) .nil))) (.ix (.v 0) (.v 1)) (.bin .mul (.k (.int 7919)) (.bin .add (.v 1) (.k (.int 5))))))
  (.seq (.set (.v 3) (.bin .add (.k (.int 211)) (.v 1)))
  (.seq (.for_ (.v 4) (.bin .add (.sl (.v 0) .nil (.k (.int 5))) (.lst (.cons (.v 2) .nil)))
  seedC)
  (.ret (.lstc (.cons (.ite (.cmp .ge (.blt .abs (.cons (.v 2) .nil)) (.bin .pow (.k (.int 10)) (.k (.int 18)))) (.blt .abs (.cons (.v 2) .nil)) (.k (.int 0))) (.cons (.v 3) .nil)))))))
/-- the def _law_draw, as a term -/
def drawC : C :=
  (.seq (.iff (.cmp .gt (.ix (.v 0) (.k (.int 0))) (.k (.int 0))) (.seq (.set (.tup (.cons (.ix (.v 0) (.k (.int 0))) (.cons (.v 2) .nil))) (.blt .divmod (.cons (.ix (.v 0) (.k (.int 0))) (.cons (.v 1) .nil))))
  (.ret (.v 2))) .pass)
  (.seq (.set (.ix (.v 0) (.k (.int 1))) (.bin .mod (.blt .int (.cons (.bin .add (.bin .mul (.ix (.v 0) (.k (.int 1))) (.k (.int 69621))) (.k (.int 40503))) .nil)) (.k (.int 2147483647))))
  (.ret (.bin .mod (.blt .int (.cons (.bin .fdiv (.ix (.v 0) (.k (.int 1))) (.k (.int 1024))) .nil)) (.v 1)))))

theorem ixZ_in {n : Nat} {i : Nat} (h : i < n) : ixZ n (i : Int) = some i := by
  unfold ixZ
  rw [if_pos (by omega), if_pos (by omega)]
  simp
section
variable {T : Tb} {call mk : Calls}
/-- one turn of the seed -/
theorem seed_step {s z : Int} {scr : PV} {k : Int} {cell : Option PV} {S : Store} :
    (den T call mk (.set (.v 3) (.bin .mod (.blt .int (.cons (.bin .add (.bin .add (.bin .mul (.v 3) (.k (.int 48271))) (.bin .mod (.blt .int (.cons (.v 4) .nil)) (.k (.int 2147483647)))) (.k (.int 101))) .nil)) (.k (.int 2147483647))))).s
      [some scr, some (.int k), cell, some (.int s), some (.int z)] S = .ok (.next [some scr, some (.int k), cell, some (.int ((s * 48271 + z % 2147483647 + 101) % 2147483647)), some (.int z)]) S := by
  have hm : mulOk s 48271 = true := by
    unfold mulOk
    have : decide ((48271 : Int).natAbs < 2 ^ 64) = true := by decide
    rw [this]; simp
  show R.bindS (R.bind (R.bind (R.bind (R.bind (R.bind (opt (if mulOk s 48271 = true then some (PV.int (s * 48271)) else none) S) _) _) _) _) _) _ _ = _
  rw [hm]
  rfl
theorem seq_ok {a b : C} {ρ ρ1 : Env} {S S1 : Store} (h : (den T call mk a).s ρ S = .ok (.next ρ1) S1) : (den T call mk (.seq a b)).s ρ S = (den T call mk b).s ρ1 S1 := by
  show ((den T call mk a).s ρ S).bindB _ = _
  rw [h]
  rfl
theorem seq_ret {a b : C} {ρ : Env} {S S1 : Store} {v : PV} (h : (den T call mk a).s ρ S = .ok (.ret v) S1) : (den T call mk (.seq a b)).s ρ S = .ok (.ret v) S1 := by
  show ((den T call mk a).s ρ S).bindB _ = _
  rw [h]
  rfl
theorem set_v {i : Nat} {a : C} {ρ : Env} {S S1 : Store} {p : PV} (h : (den T call mk a).e ρ S = .ok p S1) (hi : i < ρ.length) : (den T call mk (.set (.v i) a)).s ρ S = .ok (.next (ρ.set i (some p))) S1 := by
  show ((den T call mk a).e ρ S).bindS ρ (fun p S => (if i < ρ.length then R.ok (ρ.set i (some p)) S else .bad).bindB fun ρ S => R.ok (Fl.next ρ) S) = _
  rw [h]
  show ((if i < ρ.length then R.ok (ρ.set i (some p)) S1 else .bad).bindB fun ρ S => R.ok (Fl.next ρ) S) = _
  rw [if_pos hi]
  rfl
theorem ret_ok {a : C} {ρ : Env} {S S1 : Store} {p : PV} (h : (den T call mk a).e ρ S = .ok p S1) : (den T call mk (.ret a)).s ρ S = .ok (.ret p) S1 := by
  show ((den T call mk a).e ρ S).bindS ρ (fun p S => .ok (.ret p) S) = _
  rw [h]
  rfl
theorem iff_ok {t a b : C} {ρ : Env} {S S1 : Store} {c : Bool} (h : (den T call mk t).e ρ S = .ok (.bl c) S1) : (den T call mk (.iff t a b)).s ρ S = if c then (den T call mk a).s ρ S1 else (den T call mk b).s ρ S1 := by
  show ((den T call mk t).e ρ S).bindS ρ _ = _
  rw [h]
  cases c <;> rfl
theorem ite_ok {t a b : C} {ρ : Env} {S S1 : Store} {c : Bool} (h : (den T call mk t).e ρ S = .ok (.bl c) S1) : (den T call mk (.ite t a b)).e ρ S = if c then (den T call mk a).e ρ S1 else (den T call mk b).e ρ S1 := by
  show ((den T call mk t).e ρ S).bind _ = _
  rw [h]
  cases c <;> rfl
theorem mul_ok {i j : Int} (h : j.natAbs < 2 ^ 64) : mulOk i j = true := by
  unfold mulOk
  rw [decide_eq_true h]; simp
theorem mul_ok' {i j : Int} (h : i.natAbs < 2 ^ 64) : mulOk i j = true := by
  unfold mulOk
  rw [decide_eq_true h]; simp
theorem seed_loop {scr : PV} {k : Int} {cell : Option PV} {S : Store} : ∀ (zs : List Int) (s : Int) (x4 : Option PV), ∃ s' x', forLoop (den T call mk (.v 4)).t (den T call mk seedC).s (zs.map .int) [some scr, some (.int k), cell, some (.int s), x4] S = .ok (.next [some scr, some (.int k), cell, some (.int s'), x']) S
  | [], s, x4 => ⟨s, x4, rfl⟩
  | z :: r, s, x4 => by
    obtain ⟨s', x', h⟩ := seed_loop r ((s * 48271 + z % 2147483647 + 101) % 2147483647) (some (.int z))
    refine ⟨s', x', ?_⟩
    show R.bindB ((den T call mk seedC).s [some scr, some (.int k), cell, some (.int s), some (.int z)] S) _ = _
    rw [show (den T call mk seedC).s [some scr, some (.int k), cell, some (.int s), some (.int z)] S = _ from seed_step]
    exact h
theorem purse_ok {ns : List Int} (hn : ns.length ≤ 63) (k : Nat) (S : Store) : ∃ a b : Int, (den T call mk purseC).s [some (scrV ns), some (.int k), none, none, none] S = .ok (.ret (.cell S.length)) (S ++ [.lst [.int a, .int b]]) := by
  unfold purseC
  -- the cell
  have h1 : ∃ z : Int, (den T call mk (.ite (.cmp .lt (.v 1) (.blt .len (.cons (.v 0) .nil))) (.ix (.v 0) (.v 1)) (.bin .mul (.k (.int 7919)) (.bin .add (.v 1) (.k (.int 5)))))).e [some (scrV ns), some (.int k), none, none, none] S = .ok (.int z) S := by
    have ht : (den T call mk (.cmp .lt (.v 1) (.blt .len (.cons (.v 0) .nil)))).e [some (scrV ns), some (.int k), none, none, none] S = .ok (.bl (decide ((k : Int) < ((ns.map PV.int).length : Int)))) S := rfl
    rw [ite_ok ht]
    by_cases hk : (k : Int) < ((ns.map PV.int).length : Int)
    · rw [decide_eq_true hk, if_pos rfl]
      have hk' : k < ns.length := by rw [List.length_map] at hk; omega
      refine ⟨ns[k], ?_⟩
      show opt ((ixZ (ns.map PV.int).length (k : Int)).bind fun j => (ns.map PV.int)[j]?) S = _
      rw [ixZ_in (by rw [List.length_map]; exact hk')]
      show opt ((ns.map PV.int)[k]?) S = _
      rw [List.getElem?_map, List.getElem?_eq_getElem hk']
      rfl
    · rw [decide_eq_false hk, if_neg (by simp)]
      refine ⟨7919 * ((k : Int) + 5), ?_⟩
      show opt (if mulOk 7919 ((k : Int) + 5) = true then some (PV.int (7919 * ((k : Int) + 5))) else none) S = _
      rw [mul_ok' (by decide)]
      rfl
  obtain ⟨z, h1⟩ := h1
  rw [seq_ok (show (den T call mk (.set (.v 2) _)).s _ S = .ok (.next [some (scrV ns), some (.int k), some (.int z), none, none]) S from set_v h1 (by simp))]
  have h2 : (den T call mk (.bin .add (.k (.int 211)) (.v 1))).e [some (scrV ns), some (.int k), some (.int z), none, none] S = .ok (.int (211 + k)) S := rfl
  rw [seq_ok (show (den T call mk (.set (.v 3) _)).s _ S = .ok (.next [some (scrV ns), some (.int k), some (.int z), some (.int (211 + k)), none]) S from set_v h2 (by simp))]
  -- the numbers that are mixed in
  have hcut : cutL (ns.map PV.int) none (some 5) = (((ns.drop 0).take (clampI (ns.map PV.int).length 5 - 0))).map PV.int := by
    unfold cutL
    simp [List.map_take]
  have hl : (cutL (ns.map PV.int) none (some 5)).length ≤ 63 := by
    rw [hcut, List.length_map]
    exact Nat.le_trans (List.length_take_le' _ _) (by simpa using hn)
  have h3 : (den T call mk (.bin .add (.sl (.v 0) .nil (.k (.int 5))) (.lst (.cons (.v 2) .nil)))).i [some (scrV ns), some (.int k), some (.int z), some (.int (211 + k)), none] S = .ok (((((ns.drop 0).take (clampI (ns.map PV.int).length 5 - 0))) ++ [z]).map PV.int) S := by
    show R.bind (opt (if (cutL (ns.map PV.int) none (some 5)).length + [PV.int z].length ≤ lim then some (PV.lst (cutL (ns.map PV.int) none (some 5) ++ [PV.int z])) else none) S) _ = _
    rw [if_pos (by unfold lim; simp only [List.length_singleton]; omega), hcut, List.map_append]
    rfl
  obtain ⟨s', x', h4⟩ := seed_loop (T := T) (call := call) (mk := mk) (scr := scrV ns) (k := k) (cell := some (.int z)) (S := S) ((((ns.drop 0).take (clampI (ns.map PV.int).length 5 - 0))) ++ [z]) (211 + k) none
  have h5 : (den T call mk (.for_ (.v 4) (.bin .add (.sl (.v 0) .nil (.k (.int 5))) (.lst (.cons (.v 2) .nil))) seedC)).s [some (scrV ns), some (.int k), some (.int z), some (.int (211 + k)), none] S = .ok (.next [some (scrV ns), some (.int k), some (.int z), some (.int s'), x']) S := by
    show R.bindS ((den T call mk (.bin .add (.sl (.v 0) .nil (.k (.int 5))) (.lst (.cons (.v 2) .nil)))).i _ S) _ _ = _
    rw [h3]
    exact h4
  rw [seq_ok h5]
  have h6 : ∃ a : Int, (den T call mk (.ite (.cmp .ge (.blt .abs (.cons (.v 2) .nil)) (.bin .pow (.k (.int 10)) (.k (.int 18)))) (.blt .abs (.cons (.v 2) .nil)) (.k (.int 0)))).e [some (scrV ns), some (.int k), some (.int z), some (.int s'), x'] S = .ok (.int a) S := by
    have ht : (den T call mk (.cmp .ge (.blt .abs (.cons (.v 2) .nil)) (.bin .pow (.k (.int 10)) (.k (.int 18))))).e [some (scrV ns), some (.int k), some (.int z), some (.int s'), x'] S = .ok (.bl (decide ((10 : Int) ^ 18 ≤ if z < 0 then -z else z))) S := rfl
    rw [ite_ok ht]
    cases decide ((10 : Int) ^ 18 ≤ if z < 0 then -z else z)
    · exact ⟨0, rfl⟩
    · exact ⟨if z < 0 then -z else z, rfl⟩
  obtain ⟨a, h6⟩ := h6
  refine ⟨a, s', ret_ok ?_⟩
  show R.bind (R.bind ((den T call mk (.ite (.cmp .ge (.blt .abs (.cons (.v 2) .nil)) (.bin .pow (.k (.int 10)) (.k (.int 18)))) (.blt .abs (.cons (.v 2) .nil)) (.k (.int 0)))).e _ S) _) _ = _
  rw [h6]
  rfl
/-- a draw: the purse stays a list of two numbers -/
theorem draw_ok {i : Nat} {m : Int} {a b : Int} {S : Store} (hi : S[i]? = some (.lst [.int a, .int b])) (h0 : 0 < m) (h1 : m < 1000000000) : ∃ a' b' d : Int, 0 ≤ d ∧ d < m ∧ (den T call mk drawC).s [some (.cell i), some (.int m), none] S = .ok (.ret (.int d)) (S.set i (.lst [.int a', .int b'])) := by
  have ix0 : (den T call mk (.ix (.v 0) (.k (.int 0)))).e [some (.cell i), some (.int m), none] S = .ok (.int a) S := by
    show opt ((match S[i]? with | some (.lst xs) => some xs | some (.scr xs) => some xs | _ => none : Option (List PV)).bind fun xs => (ixZ xs.length 0).bind fun j => xs[j]?) S = _
    rw [hi]
    rfl
  have ht : (den T call mk (.cmp .gt (.ix (.v 0) (.k (.int 0))) (.k (.int 0)))).e [some (.cell i), some (.int m), none] S = .ok (.bl (decide (0 < a))) S := by
    show R.bind ((den T call mk (.ix (.v 0) (.k (.int 0)))).e _ S) _ = _
    rw [ix0]
    rfl
  unfold drawC
  by_cases ha : 0 < a
  · refine ⟨a / m, b, a % m, Int.emod_nonneg _ (by omega), Int.emod_lt_of_pos _ h0, seq_ret ?_⟩
    rw [iff_ok ht, decide_eq_true ha, if_pos rfl]
    have hd : (den T call mk (.blt .divmod (.cons (.ix (.v 0) (.k (.int 0))) (.cons (.v 1) .nil)))).e [some (.cell i), some (.int m), none] S = .ok (.tup [.int (a / m), .int (a % m)]) S := by
      show R.bind (R.bind ((den T call mk (.ix (.v 0) (.k (.int 0)))).e _ S) _) _ = _
      rw [ix0]
      show opt (if (decide (0 < m) && decide (m < 1000000000)) = true then some (PV.tup [.int (a / m), .int (a % m)]) else none) S = _
      rw [if_pos (by simp [h0, h1])]
      rfl
    have hs : (den T call mk (.set (.tup (.cons (.ix (.v 0) (.k (.int 0))) (.cons (.v 2) .nil))) (.blt .divmod (.cons (.ix (.v 0) (.k (.int 0))) (.cons (.v 1) .nil))))).s [some (.cell i), some (.int m), none] S = .ok (.next [some (.cell i), some (.int m), some (.int (a % m))]) (S.set i (.lst [.int (a / m), .int b])) := by
      show R.bindS ((den T call mk (.blt .divmod (.cons (.ix (.v 0) (.k (.int 0))) (.cons (.v 1) .nil)))).e _ S) _ _ = _
      rw [hd]
      show R.bindB (R.bind (R.bind (setItemE (.cell i) (.int 0) (.int (a / m)) S) _) _) _ = _
      unfold setItemE
      dsimp only
      rw [hi]
      rfl
    rw [seq_ok hs]
    rfl
  · have h2 : (den T call mk (.iff (.cmp .gt (.ix (.v 0) (.k (.int 0))) (.k (.int 0))) (.seq (.set (.tup (.cons (.ix (.v 0) (.k (.int 0))) (.cons (.v 2) .nil))) (.blt .divmod (.cons (.ix (.v 0) (.k (.int 0))) (.cons (.v 1) .nil)))) (.ret (.v 2))) .pass)).s [some (.cell i), some (.int m), none] S = .ok (.next [some (.cell i), some (.int m), none]) S := by
      rw [iff_ok ht, decide_eq_false ha]
      rfl
    rw [seq_ok h2]
    have ix1 : ∀ (c e : Int) (S : Store), S[i]? = some (.lst [.int c, .int e]) → (den T call mk (.ix (.v 0) (.k (.int 1)))).e [some (.cell i), some (.int m), none] S = .ok (.int e) S := fun c e S hS => by
      show opt ((match S[i]? with | some (.lst xs) => some xs | some (.scr xs) => some xs | _ => none : Option (List PV)).bind fun xs => (ixZ xs.length 1).bind fun j => xs[j]?) S = _
      rw [hS]
      rfl
    have hil : i < S.length := (List.getElem?_eq_some_iff.mp hi).1
    have he : (den T call mk (.bin .mod (.blt .int (.cons (.bin .add (.bin .mul (.ix (.v 0) (.k (.int 1))) (.k (.int 69621))) (.k (.int 40503))) .nil)) (.k (.int 2147483647)))).e [some (.cell i), some (.int m), none] S = .ok (.int ((b * 69621 + 40503) % 2147483647)) S := by
      show R.bind (R.bind (R.bind (R.bind (R.bind ((den T call mk (.ix (.v 0) (.k (.int 1)))).e _ S) _) _) _) _) _ = _
      rw [ix1 _ _ _ hi]
      show R.bind (R.bind (R.bind (R.bind (opt (if mulOk b 69621 = true then some (PV.int (b * 69621)) else none) S) _) _) _) _ = _
      rw [mul_ok (by decide)]
      rfl
    have hs : (den T call mk (.set (.ix (.v 0) (.k (.int 1))) (.bin .mod (.blt .int (.cons (.bin .add (.bin .mul (.ix (.v 0) (.k (.int 1))) (.k (.int 69621))) (.k (.int 40503))) .nil)) (.k (.int 2147483647))))).s [some (.cell i), some (.int m), none] S = .ok (.next [some (.cell i), some (.int m), none]) (S.set i (.lst [.int a, .int ((b * 69621 + 40503) % 2147483647)])) := by
      show R.bindS ((den T call mk (.bin .mod (.blt .int (.cons (.bin .add (.bin .mul (.ix (.v 0) (.k (.int 1))) (.k (.int 69621))) (.k (.int 40503))) .nil)) (.k (.int 2147483647)))).e _ S) _ _ = _
      rw [he]
      show R.bindB (R.bind (setItemE (.cell i) (.int 1) (.int ((b * 69621 + 40503) % 2147483647)) S) _) _ = _
      unfold setItemE
      dsimp only
      rw [hi]
      rfl
    rw [seq_ok hs]
    have hS2 : (S.set i (.lst [.int a, .int ((b * 69621 + 40503) % 2147483647)]))[i]? = some (.lst [.int a, .int ((b * 69621 + 40503) % 2147483647)]) := by
      rw [List.getElem?_set_self hil]
    refine ⟨a, (b * 69621 + 40503) % 2147483647, ((b * 69621 + 40503) % 2147483647 / 1024) % m, Int.emod_nonneg _ (by omega), Int.emod_lt_of_pos _ h0, ret_ok ?_⟩
    show R.bind (R.bind (R.bind (R.bind ((den T call mk (.ix (.v 0) (.k (.int 1)))).e _ _) _) _) _) _ = _
    rw [ix1 _ _ _ hS2]
    show R.bind (R.bind (R.bind (opt (if divOk 1024 = true then some (PV.int ((b * 69621 + 40503) % 2147483647 / 1024)) else none) _) _) _) _ = _
    rw [show divOk 1024 = true from by decide +kernel]
    show opt (if decide (0 < m) = true then some (PV.int ((b * 69621 + 40503) % 2147483647 / 1024 % m)) else none) _ = _
    rw [if_pos (by simpa using h0)]
    rfl
end
end Ev
set_option Elab.async false
set_option linter.all false
set_option maxRecDepth 100000
set_option maxHeartbeats 1000000
/-! E35: a law's own end: all its purses. -/
namespace Ev
open PySem

section
variable {T : Tb} {call mk : Calls}
theorem blsO_true : ∀ ks : List Nat, blsO (ks.map fun _ => PV.bl true) = some (ks.map fun _ => true)
  | [] => rfl
  | k :: r => by
    show blsO (PV.bl true :: r.map fun _ => PV.bl true) = _
    unfold blsO
    rw [blsO_true r]
    rfl
theorem comp_right {Rf P j : Nat} {ns : List Int} {ρ : Env} (h0 : ρ[0]? = some (some (scrV ns))) (hj : j < ρ.length) (hj0 : j ≠ 0)
    (hP : ∀ k : Nat, k < 64 → ∃ a b : Int, call P [scrV ns, .int k] [] = .ok (.cell 0) [.lst [.int a, .int b]]) (hR : ∀ a b : Int, ∃ S', call Rf [.cell 0] [.lst [.int a, .int b]] = .ok (.bl true) S') :
    ∀ ks : List Nat, (∀ k ∈ ks, k < 64) → compLoop (den T call mk (.v j)).t (den T call mk (.k (.bl true))).e (den T call mk (.call Rf (.cons (.call P (.cons (.v 0) (.cons (.v j) .nil)) []) .nil) [])).e ρ (ks.map fun k => PV.int (k : Nat)) [] = .ok (ks.map fun _ => PV.bl true) []
  | [], _ => rfl
  | k :: r, hk => by
    obtain ⟨a, b, e1⟩ := hP k (hk k List.mem_cons_self)
    obtain ⟨S', e2⟩ := hR a b
    have ih := comp_right h0 hj hj0 hP hR r fun z hz => hk z (List.mem_cons_of_mem _ hz)
    have ht : (den T call mk (.v j)).t (PV.int (k : Nat)) ρ [] = .ok (ρ.set j (some (PV.int (k : Nat)))) [] := by
      show (if j < ρ.length then R.ok (ρ.set j (some (PV.int (k : Nat)))) [] else .bad) = _
      rw [if_pos hj]
    have hx0 : (den T call mk (.v 0)).e (ρ.set j (some (PV.int (k : Nat)))) [] = .ok (scrV ns) [] := by
      show (match (ρ.set j (some (PV.int (k : Nat))))[0]? with | some (some p) => R.ok p [] | _ => .bad) = _
      rw [List.getElem?_set_ne hj0, h0]
    have hxj : (den T call mk (.v j)).e (ρ.set j (some (PV.int (k : Nat)))) [] = .ok (PV.int (k : Nat)) [] := by
      show (match (ρ.set j (some (PV.int (k : Nat))))[j]? with | some (some p) => R.ok p [] | _ => .bad) = _
      rw [List.getElem?_set_self hj]
    have he : (den T call mk (.call Rf (.cons (.call P (.cons (.v 0) (.cons (.v j) .nil)) []) .nil) [])).e (ρ.set j (some (PV.int (k : Nat)))) [] = .ok (.bl true) S' := by
      show R.bind (R.bind (R.bind (R.bind ((den T call mk (.v 0)).e _ []) _) _) _) _ = _
      rw [hx0]
      show R.bind (R.bind (R.bind (R.bind (R.bind ((den T call mk (.v j)).e _ []) _) _) _) _) _ = _
      rw [hxj]
      show R.bind (R.bind (call P [scrV ns, .int (k : Nat)] []) _) _ = _
      rw [e1]
      exact e2
    show R.bindB ((den T call mk (.v j)).t (PV.int (k : Nat)) ρ []) _ = _
    rw [ht]
    show R.bindB ((den T call mk (.call Rf (.cons (.call P (.cons (.v 0) (.cons (.v j) .nil)) []) .nil) [])).e (ρ.set j (some (PV.int (k : Nat)))) []) _ = _
    rw [he]
    have ha : after ([] : Store).length (.bl true) S' = .ok (.bl true) [] := by
      unfold after
      cases S' with
      | nil => rfl
      | cons c r => rfl
    show R.bindB (after ([] : Store).length (.bl true) S') _ = _
    rw [ha]
    show R.bindB (compLoop _ _ _ ρ (r.map fun k => PV.int (k : Nat)) []) _ = _
    rw [ih]
    rfl
/-- all([right(purse(script, spot)) for spot in ..]) -/
theorem all_right {Rf P j : Nat} {ns : List Int} {ρ : Env} {it : C} {ks : List Nat} (h0 : ρ[0]? = some (some (scrV ns))) (hj : j < ρ.length) (hj0 : j ≠ 0) (hi : (den T call mk it).i ρ [] = .ok (ks.map fun k => PV.int (k : Nat)) []) (hk : ∀ k ∈ ks, k < 64) (hl : ks.length ≤ 64)
    (hP : ∀ k : Nat, k < 64 → ∃ a b : Int, call P [scrV ns, .int k] [] = .ok (.cell 0) [.lst [.int a, .int b]]) (hR : ∀ a b : Int, ∃ S', call Rf [.cell 0] [.lst [.int a, .int b]] = .ok (.bl true) S') :
    (den T call mk (.ret (.blt .all (.cons (.comp [j] it (.v j) (.k (.bl true)) (.call Rf (.cons (.call P (.cons (.v 0) (.cons (.v j) .nil)) []) .nil) [])) .nil)))).s ρ [] = .ok (.ret (.bl true)) [] := by
  refine ret_ok ?_
  have hc : (den T call mk (.comp [j] it (.v j) (.k (.bl true)) (.call Rf (.cons (.call P (.cons (.v 0) (.cons (.v j) .nil)) []) .nil) []))).e ρ [] = .ok (.lst (ks.map fun _ => PV.bl true)) [] := by
    show R.bind ((den T call mk it).i ρ []) _ = _
    rw [hi]
    show R.bind (compLoop _ _ _ (ρ.set j none) (ks.map fun k => PV.int (k : Nat)) []) _ = _
    rw [comp_right (ρ := ρ.set j none) (by rw [List.getElem?_set_ne hj0]; exact h0) (by rw [List.length_set]; exact hj) hj0 hP hR ks hk]
    show sizeOk _ [] = _
    unfold sizeOk
    rw [if_pos (by rw [List.length_map]; unfold lim; omega)]
  show R.bind (R.bind ((den T call mk (.comp [j] it (.v j) (.k (.bl true)) (.call Rf (.cons (.call P (.cons (.v 0) (.cons (.v j) .nil)) []) .nil) []))).e ρ []) _) _ = _
  rw [hc]
  show opt ((blsO (ks.map fun _ => PV.bl true)).map fun bs => PV.bl (bs.all id)) [] = _
  rw [blsO_true]
  show R.ok (PV.bl ((ks.map fun _ => true).all id)) [] = _
  rw [show ((ks.map fun _ => true).all id) = true from by rw [List.all_map]; exact List.all_eq_true.mpr fun _ _ => rfl]
theorem ix_ok {a b : C} {ρ : Env} {S S1 S2 : Store} {p q r : PV} (ha : (den T call mk a).e ρ S = .ok p S1) (hb : (den T call mk b).e ρ S1 = .ok q S2) (hi : itemD p q S2 = some r) : (den T call mk (.ix a b)).e ρ S = .ok r S2 := by
  show ((den T call mk a).e ρ S).bind (fun p S => ((den T call mk b).e ρ S).bind fun q S => itemE p q S) = _
  rw [ha]
  show ((den T call mk b).e ρ S1).bind (fun q S => itemE p q S) = _
  rw [hb]
  show opt (itemD p q S2) S2 = _
  rw [hi]
  rfl
theorem call_c {f : Nat} {l : C} {ρ : Env} {S S1 S2 : Store} {ps : List PV} {v : PV} (hl : (den T call mk l).l ρ S = .ok ps S1) (hc : call f ps S1 = .ok v S2) : (den T call mk (.call f l [])).e ρ S = .ok v S2 := by
  show ((den T call mk l).l ρ S).bind (fun ps S => call f (permV [] ps) S) = _
  rw [hl]
  exact hc
theorem item_nat {xs : List PV} {k : Nat} {S : Store} (h : k < xs.length) : itemD (.lst xs) (.int (k : Nat)) S = some (xs.getD k .non) := by
  show (ixZ xs.length (k : Int)).bind (fun j => xs[j]?) = _
  rw [ixZ_in h]
  show xs[k]? = _
  rw [List.getD_eq_getElem?_getD, List.getElem?_eq_getElem h]
  rfl
/-- a purse, called -/
theorem call_purse {m P : Nat} {ns : List Int} (hn : ns.length ≤ 63) (hf : T.fns[P]? = some { np := 2, star := false, slots := 5, body := purseC }) (k : Nat) : ∃ a b : Int, callN T (m + 1) P [scrV ns, .int k] [] = .ok (.cell 0) [.lst [.int a, .int b]] := by
  obtain ⟨a, b, h⟩ := purse_ok (T := T) (call := callN T m) (mk := callN T m) hn k []
  refine ⟨a, b, ?_⟩
  show (match T.fns[P]? with
    | none => R.bad
    | some fn => match argsOf fn [scrV ns, .int k] with
      | none => .bad
      | some as => endE ([] : Store).length ((den T (callN T m) (callN T m) fn.body).s (envOf fn as) [])) = _
  rw [hf]
  show endE 0 ((den T (callN T m) (callN T m) purseC).s [some (scrV ns), some (.int k), none, none, none] []) = _
  rw [h]
  rfl
/-- a draw, called -/
theorem call_draw {m D i : Nat} {n a b : Int} {S : Store} (hf : T.fns[D]? = some { np := 2, star := false, slots := 3, body := drawC }) (hi : S[i]? = some (.lst [.int a, .int b])) (h0 : 0 < n) (h1 : n < 1000000000) :
    ∃ a' b' d : Int, 0 ≤ d ∧ d < n ∧ callN T (m + 1) D [.cell i, .int n] S = .ok (.int d) (S.set i (.lst [.int a', .int b'])) := by
  obtain ⟨a', b', d, h2, h3, h⟩ := draw_ok (T := T) (call := callN T m) (mk := callN T m) hi h0 h1
  refine ⟨a', b', d, h2, h3, ?_⟩
  show (match T.fns[D]? with
    | none => R.bad
    | some fn => match argsOf fn [.cell i, .int n] with
      | none => .bad
      | some as => endE S.length ((den T (callN T m) (callN T m) fn.body).s (envOf fn as) S)) = _
  rw [hf]
  show endE S.length ((den T (callN T m) (callN T m) drawC).s [some (.cell i), some (.int n), none] S) = _
  rw [h]
  show after S.length (.int d) (S.set i (.lst [.int a', .int b'])) = _
  unfold after
  rw [List.length_set]
  simp
/-- a def without a star, called -/
theorem call_fn {m f : Nat} {fn : Fn} {vs : List PV} {S S' : Store} {v : PV} (hf : T.fns[f]? = some fn) (hs : fn.star = false) (hl : vs.length = fn.np) (h : endE S.length ((den T (callN T m) (callN T m) fn.body).s (envOf fn vs) S) = .ok v S') : callN T (m + 1) f vs S = .ok v S' := by
  show (match T.fns[f]? with
    | none => R.bad
    | some fn => match argsOf fn vs with
      | none => .bad
      | some as => endE S.length ((den T (callN T m) (callN T m) fn.body).s (envOf fn as) S)) = _
  rw [hf]
  have : argsOf fn vs = some vs := by
    unfold argsOf
    rw [hs]
    simp [hl]
  dsimp only
  rw [this]
  exact h
end
end Ev
set_option Elab.async false
set_option linter.all false
set_option maxRecDepth 100000
set_option maxHeartbeats 1000000
/-! E36: defs whose meaning is known in short; checks of blocks by the kernel. -/
namespace Ev
open PySem

/-- the calls, but with what is known of some defs in their place -/
def callF (T : Tb) (sp : Nat → List PV → Store → Option (R PV)) : Nat → Calls
  | 0 => noCalls
  | n + 1 => fun f vs S => match sp f vs S with
    | some r => r
    | none => runF T (callF T sp n) (callF T sp n) f vs S
theorem callF_eq {T : Tb} {sp : Nat → List PV → Store → Option (R PV)} (h : ∀ n f vs S r, sp f vs S = some r → runF T (callN T n) (callN T n) f vs S = r) : ∀ n, callF T sp n = callN T n
  | 0 => rfl
  | n + 1 => by
    funext f vs S
    show (match sp f vs S with | some r => r | none => runF T (callF T sp n) (callF T sp n) f vs S) = runF T (callN T n) (callN T n) f vs S
    rw [callF_eq h n]
    cases hs : sp f vs S with
    | none => rfl
    | some r => exact (h n f vs S r hs).symm
/-- the number of ways to take k of n, by the loop -/
def binN (n k : Nat) : Nat := Nat.rec (motive := fun _ => Nat) 1 (fun j ih => ih * (n - j) / (j + 1)) k
def binBody : C := .set (.v 2) (.bin .fdiv (.bin .mul (.v 2) (.bin .sub (.v 0) (.v 3))) (.bin .add (.v 3) (.k (.int 1))))
def binC : C :=
  (.seq (.iff (.or (.cmp .lt (.v 1) (.k (.int 0))) (.cmp .gt (.v 1) (.v 0))) (.ret (.k (.int 0))) .pass)
  (.seq (.set (.v 2) (.k (.int 1)))
  (.seq (.for_ (.v 3) (.range (.cons (.v 1) .nil))
  binBody)
  (.ret (.v 2)))))
def dblC : C :=
  (.seq (.set (.v 1) (.k (.int 1)))
  (.seq (.for_ (.v 2) (.range (.cons (.v 0) .nil))
  (.set (.v 1) (.bin .mul (.v 1) (.k (.int 2)))))
  (.ret (.v 1))))
def binSp (vs : List PV) (S : Store) : Option (R PV) := match vs with
  | [.int n, .int k] => if decide (0 ≤ n) && decide (n ≤ 5000) then some (.ok (.int (if decide (k < 0) || decide (n < k) then 0 else ((binN n.toNat k.toNat : Nat) : Int))) S) else none
  | _ => none
def dblSp (vs : List PV) (S : Store) : Option (R PV) := match vs with
  | [.int n] => if decide (0 ≤ n) && decide (n ≤ 5000) then some (.ok (.int ((2 ^ n.toNat : Nat) : Int)) S) else none
  | _ => none
section
variable {T : Tb} {call mk : Calls}
theorem range_i {a : C} {ρ : Env} {S S1 : Store} {n : Nat} (ha : (den T call mk a).e ρ S = .ok (.int (n : Nat)) S1) (hn : n ≤ 1000000) : (den T call mk (.range (.cons a .nil))).i ρ S = .ok (upFrom 0 n) S1 := by
  have h2 : (den T call mk (.cons a .nil)).l ρ S = .ok [.int (n : Nat)] S1 := by
    show ((den T call mk a).e ρ S).bind _ = _
    rw [ha]
    rfl
  show ((den T call mk (.cons a .nil)).l ρ S).bind (fun ps S => opt (rangeD ps) S) = _
  rw [h2]
  have h3 : rangeOk (n : Int) = true := by
    unfold rangeOk
    simp only [Bool.and_eq_true, decide_eq_true_eq]
    have e62 : (2 : Int) ^ 62 = 4611686018427387904 := by decide
    rw [e62]
    omega
  have h4 : rangeD [.int (n : Nat)] = some (upFrom 0 n) := by
    unfold rangeD
    dsimp only
    rw [if_pos h3, Int.toNat_natCast]
  rw [bind_ok, h4]
  exact opt_some _ _
theorem for_ok {tg it body : C} {ρ : Env} {S S1 : Store} {xs : List PV} {r : R Fl} (hi : (den T call mk it).i ρ S = .ok xs S1) (hl : forLoop (den T call mk tg).t (den T call mk body).s xs ρ S1 = r) : (den T call mk (.for_ tg it body)).s ρ S = r := by
  show ((den T call mk it).i ρ S).bindS ρ (fun xs S => forLoop (den T call mk tg).t (den T call mk body).s xs ρ S) = _
  rw [hi]
  exact hl
theorem div_ok {j : Int} (h0 : 0 < j) (h1 : j ≤ 8000) : divOk j = true := by
  unfold divOk
  have h2 : j.natAbs < 2 ^ 13 := by
    have : (2 : Nat) ^ 13 = 8192 := by decide
    rw [this]; omega
  have h3 : (2 : Nat) ^ 13 ≤ 2 ^ 8000 := Nat.pow_le_pow_right (by decide) (by decide)
  rw [decide_eq_true h0, decide_eq_true (Nat.lt_of_lt_of_le h2 h3)]
  rfl
theorem bin_step {n j : Nat} (hn : n ≤ 5000) (hj : j < n) {K : Option PV} {S : Store} :
    (den T call mk binBody).s [some (.int n), K, some (.int ((binN n j : Nat) : Int)), some (.int j)] S = .ok (.next [some (.int n), K, some (.int ((binN n (j + 1) : Nat) : Int)), some (.int j)]) S := by
  have e : ((binN n (j + 1) : Nat) : Int) = ((binN n j : Nat) : Int) * ((n : Int) - (j : Int)) / ((j : Int) + 1) := by
    show ((binN n j * (n - j) / (j + 1) : Nat) : Int) = _
    have e2 : ((n - j : Nat) : Int) = (n : Int) - (j : Int) := by omega
    rw [Int.natCast_ediv, Int.natCast_mul, e2]
    rfl
  have hm : mulOk ((binN n j : Nat) : Int) ((n : Int) - (j : Int)) = true := mul_ok (by
    have : (2 : Nat) ^ 64 = 18446744073709551616 := by decide
    rw [this]; omega)
  have hd : divOk ((j : Int) + 1) = true := div_ok (by omega) (by omega)
  refine set_v (p := .int ((binN n (j + 1) : Nat) : Int)) (i := 2) (ρ := [some (.int n), K, some (.int ((binN n j : Nat) : Int)), some (.int j)]) ?_ (by simp)
  rw [e]
  show R.bind (opt (if mulOk ((binN n j : Nat) : Int) ((n : Int) - (j : Int)) = true then some (PV.int (((binN n j : Nat) : Int) * ((n : Int) - (j : Int)))) else none) S) _ = _
  rw [if_pos hm]
  show opt (if divOk ((j : Int) + 1) = true then some (PV.int (((binN n j : Nat) : Int) * ((n : Int) - (j : Int)) / ((j : Int) + 1))) else none) S = _
  rw [if_pos hd]
  rfl
theorem bin_loop {n : Nat} (hn : n ≤ 5000) {K : Option PV} {S : Store} : ∀ (c j : Nat) (x : Option PV), j + c ≤ n → ∃ x', forLoop (den T call mk (.v 3)).t (den T call mk binBody).s (upFrom j c) [some (.int n), K, some (.int ((binN n j : Nat) : Int)), x] S = .ok (.next [some (.int n), K, some (.int ((binN n (j + c) : Nat) : Int)), x']) S
  | 0, j, x, _ => ⟨x, rfl⟩
  | c + 1, j, x, h => by
    obtain ⟨x', ih⟩ := bin_loop hn (K := K) (S := S) c (j + 1) (some (.int j)) (by omega)
    refine ⟨x', ?_⟩
    show R.bindB ((den T call mk binBody).s [some (.int n), K, some (.int ((binN n j : Nat) : Int)), some (.int j)] S) _ = _
    rw [bin_step hn (by omega), show j + (c + 1) = j + 1 + c from by omega]
    exact ih
theorem or_b {a b : C} {ρ : Env} {S : Store} {x y : Bool} (ha : (den T call mk a).e ρ S = .ok (.bl x) S) (hb : (den T call mk b).e ρ S = .ok (.bl y) S) : (den T call mk (.or a b)).e ρ S = .ok (.bl (x || y)) S := by
  show ((den T call mk a).e ρ S).bind _ = _
  rw [ha]
  cases x
  · exact hb
  · rfl
theorem bin_ok {vs : List PV} {S : Store} {r : R PV} {f : Nat} (hf : T.fns[f]? = some { np := 2, star := false, slots := 4, body := binC }) (h : binSp vs S = some r) : runF T call call f vs S = r := by
  unfold binSp at h
  split at h
  · rename_i n k
    by_cases hn : (decide (0 ≤ n) && decide (n ≤ 5000)) = true
    · rw [if_pos hn] at h
      cases h
      simp only [Bool.and_eq_true, decide_eq_true_eq] at hn
      obtain ⟨n, rfl⟩ : ∃ m : Nat, n = (m : Int) := ⟨n.toNat, by omega⟩
      have hn' : n ≤ 5000 := by omega
      show (match T.fns[f]? with
        | none => R.bad
        | some fn => match argsOf fn [.int n, .int k] with
          | none => .bad
          | some as => endE S.length ((den T call call fn.body).s (envOf fn as) S)) = _
      rw [hf]
      show endE S.length ((den T call call binC).s [some (.int n), some (.int k), none, none] S) = _
      have ht : (den T call call (.or (.cmp .lt (.v 1) (.k (.int 0))) (.cmp .gt (.v 1) (.v 0)))).e [some (.int n), some (.int k), none, none] S = .ok (.bl (decide (k < 0) || decide ((n : Int) < k))) S := or_b rfl rfl
      have key : ∀ v : PV, (den T call call binC).s [some (.int n), some (.int k), none, none] S = .ok (.ret v) S → endE S.length ((den T call call binC).s [some (.int n), some (.int k), none, none] S) = .ok v S := fun v e => by
        rw [e]
        show after S.length v S = _
        unfold after
        simp
      refine key _ ?_
      unfold binC
      by_cases hk : (decide (k < 0) || decide ((n : Int) < k)) = true
      · rw [if_pos hk]
        refine seq_ret ?_
        rw [iff_ok ht, hk, if_pos rfl]
        rfl
      · rw [if_neg hk]
        have hk' := Bool.eq_false_iff.mpr hk
        have h2 : (den T call call (.iff (.or (.cmp .lt (.v 1) (.k (.int 0))) (.cmp .gt (.v 1) (.v 0))) (.ret (.k (.int 0))) .pass)).s [some (.int n), some (.int k), none, none] S = .ok (.next [some (.int n), some (.int k), none, none]) S := by
          rw [iff_ok ht, hk']
          rfl
        simp only [Bool.or_eq_false_iff, decide_eq_false_iff_not] at hk'
        obtain ⟨k, rfl⟩ : ∃ m : Nat, k = (m : Int) := ⟨k.toNat, by omega⟩
        rw [seq_ok h2, seq_ok (show (den T call call (.set (.v 2) (.k (.int 1)))).s [some (.int n), some (.int k), none, none] S = .ok (.next [some (.int n), some (.int k), some (.int ((binN n 0 : Nat) : Int)), none]) S from rfl)]
        obtain ⟨x', hl⟩ := bin_loop (T := T) (call := call) (mk := call) hn' (K := some (.int k)) (S := S) k 0 none (by omega)
        have h3 : (den T call call (.for_ (.v 3) (.range (.cons (.v 1) .nil)) binBody)).s [some (.int n), some (.int k), some (.int ((binN n 0 : Nat) : Int)), none] S = .ok (.next [some (.int n), some (.int k), some (.int ((binN n (0 + k) : Nat) : Int)), x']) S := by
          exact for_ok (range_i rfl (by omega)) hl
        rw [seq_ok h3, Nat.zero_add]
        refine ret_ok ?_
        rfl
    · rw [if_neg hn] at h; cases h
  · cases h
theorem dbl_loop {K : Option PV} {S : Store} : ∀ (c : Nat) (s : Int) (j : Nat) (x : Option PV), s = ((2 ^ j : Nat) : Int) → ∃ x', forLoop (den T call mk (.v 2)).t (den T call mk (.set (.v 1) (.bin .mul (.v 1) (.k (.int 2))))).s (upFrom j c) [K, some (.int ((2 ^ j : Nat) : Int)), x] S = .ok (.next [K, some (.int ((2 ^ (j + c) : Nat) : Int)), x']) S
  | 0, s, j, x, _ => ⟨x, rfl⟩
  | c + 1, s, j, x, h => by
    obtain ⟨x', ih⟩ := dbl_loop (K := K) (S := S) c ((2 ^ (j + 1) : Nat) : Int) (j + 1) (some (.int j)) rfl
    refine ⟨x', ?_⟩
    have st : (den T call mk (.set (.v 1) (.bin .mul (.v 1) (.k (.int 2))))).s [K, some (.int ((2 ^ j : Nat) : Int)), some (.int j)] S = .ok (.next [K, some (.int ((2 ^ (j + 1) : Nat) : Int)), some (.int j)]) S := by
      refine set_v (p := .int ((2 ^ (j + 1) : Nat) : Int)) (i := 1) (ρ := [K, some (.int ((2 ^ j : Nat) : Int)), some (.int j)]) ?_ (by simp)
      show opt (if mulOk ((2 ^ j : Nat) : Int) 2 = true then some (PV.int (((2 ^ j : Nat) : Int) * 2)) else none) S = _
      rw [if_pos (mul_ok (by decide)), Nat.pow_succ, Int.natCast_mul]
      rfl
    show R.bindB ((den T call mk (.set (.v 1) (.bin .mul (.v 1) (.k (.int 2))))).s [K, some (.int ((2 ^ j : Nat) : Int)), some (.int j)] S) _ = _
    rw [st, show j + (c + 1) = j + 1 + c from by omega]
    exact ih
theorem dbl_ok {vs : List PV} {S : Store} {r : R PV} {f : Nat} (hf : T.fns[f]? = some { np := 1, star := false, slots := 3, body := dblC }) (h : dblSp vs S = some r) : runF T call call f vs S = r := by
  unfold dblSp at h
  split at h
  · rename_i n
    by_cases hn : (decide (0 ≤ n) && decide (n ≤ 5000)) = true
    · rw [if_pos hn] at h
      cases h
      simp only [Bool.and_eq_true, decide_eq_true_eq] at hn
      obtain ⟨n, rfl⟩ : ∃ m : Nat, n = (m : Int) := ⟨n.toNat, by omega⟩
      show (match T.fns[f]? with
        | none => R.bad
        | some fn => match argsOf fn [.int n] with
          | none => .bad
          | some as => endE S.length ((den T call call fn.body).s (envOf fn as) S)) = _
      rw [hf]
      show endE S.length ((den T call call dblC).s [some (.int n), none, none] S) = _
      have key : ∀ v : PV, (den T call call dblC).s [some (.int n), none, none] S = .ok (.ret v) S → endE S.length ((den T call call dblC).s [some (.int n), none, none] S) = .ok v S := fun v e => by
        rw [e]
        show after S.length v S = _
        unfold after
        simp
      refine key _ ?_
      unfold dblC
      obtain ⟨x', hl⟩ := dbl_loop (T := T) (call := call) (mk := call) (K := some (.int n)) (S := S) n _ 0 none rfl
      rw [seq_ok (show (den T call call (.set (.v 1) (.k (.int 1)))).s [some (.int n), none, none] S = .ok (.next [some (.int n), some (.int ((2 ^ 0 : Nat) : Int)), none]) S from rfl)]
      have h3 : (den T call call (.for_ (.v 2) (.range (.cons (.v 0) .nil)) (.set (.v 1) (.bin .mul (.v 1) (.k (.int 2)))))).s [some (.int n), some (.int ((2 ^ 0 : Nat) : Int)), none] S = .ok (.next [some (.int n), some (.int ((2 ^ (0 + n) : Nat) : Int)), x']) S := by
        exact for_ok (range_i rfl (by omega)) hl
      rw [seq_ok h3, Nat.zero_add]
      exact ret_ok rfl
    · rw [if_neg hn] at h; cases h
  · cases h
end
/-! ### checks of blocks: what comes out, but for the purse's two numbers -/
mutual
def sameP : PV → PV → Bool
  | .non, .non => true
  | .bl a, .bl b => a == b
  | .int i, .int j => decide (i = j)
  | .str x, .str y => decide (x = y)
  | .tup xs, .tup ys => sameL xs ys
  | .lst xs, .lst ys => sameL xs ys
  | .ins c xs, .ins d ys => decide (c = d) && sameL xs ys
  | .cell i, .cell j => decide (i = j)
  | _, _ => false
def sameL : List PV → List PV → Bool
  | [], [] => true
  | x :: xs, y :: ys => sameP x y && sameL xs ys
  | _, _ => false
end
mutual
theorem sameP_eq : ∀ p q : PV, sameP p q = true → p = q
  | .non, q, h => by cases q <;> first | rfl | (simp [sameP] at h)
  | .bl a, q, h => by cases q <;> first | (simp [sameP] at h; done) | (simp [sameP] at h; rw [h])
  | .int a, q, h => by cases q <;> first | (simp [sameP] at h; done) | (simp [sameP] at h; rw [h])
  | .str a, q, h => by cases q <;> first | (simp [sameP] at h; done) | (simp [sameP] at h; rw [h])
  | .tup xs, q, h => by
    cases q with
    | tup ys => simp only [sameP] at h; rw [sameL_eq xs ys h]
    | _ => simp [sameP] at h
  | .lst xs, q, h => by
    cases q with
    | lst ys => simp only [sameP] at h; rw [sameL_eq xs ys h]
    | _ => simp [sameP] at h
  | .ins c xs, q, h => by
    cases q with
    | ins d ys =>
      simp only [sameP, Bool.and_eq_true, decide_eq_true_eq] at h
      rw [h.1, sameL_eq xs ys h.2]
    | _ => simp [sameP] at h
  | .cell a, q, h => by cases q <;> first | (simp [sameP] at h; done) | (simp [sameP] at h; rw [h])
  | .dct _ _, q, h => by cases q <;> (simp [sameP] at h)
  | .obj _, q, h => by cases q <;> (simp [sameP] at h)
  | .ex _ _, q, h => by cases q <;> (simp [sameP] at h)
theorem sameL_eq : ∀ p q : List PV, sameL p q = true → p = q
  | [], [], _ => rfl
  | [], _ :: _, h => by simp [sameL] at h
  | _ :: _, [], h => by simp [sameL] at h
  | x :: xs, y :: ys, h => by
    simp only [sameL, Bool.and_eq_true] at h
    rw [sameP_eq x y h.1, sameL_eq xs ys h.2]
end
def sameE : Env → Env → Bool
  | [], [] => true
  | none :: r, none :: q => sameE r q
  | some x :: r, some y :: q => sameP x y && sameE r q
  | _, _ => false
theorem sameE_eq : ∀ p q : Env, sameE p q = true → p = q
  | [], [], _ => rfl
  | [], _ :: _, h => by simp [sameE] at h
  | none :: _, [], h => by simp [sameE] at h
  | some _ :: _, [], h => by simp [sameE] at h
  | none :: r, none :: q, h => by rw [sameE_eq r q (by simpa [sameE] using h)]
  | none :: r, some y :: q, h => by simp [sameE] at h
  | some x :: r, none :: q, h => by simp [sameE] at h
  | some x :: r, some y :: q, h => by
    simp only [sameE, Bool.and_eq_true] at h
    rw [sameP_eq x y h.1, sameE_eq r q h.2]
/-- goes on with these names; the store is a purse -/
def nextIs (r : R Fl) (ρ : Env) : Bool := match r with
  | .ok (.next ρ1) [.lst [.int _, .int _]] => sameE ρ1 ρ
  | _ => false
def retTrue (r : R Fl) : Bool := match r with
  | .ok (.ret (.bl true)) [.lst [.int _, .int _]] => true
  | _ => false
theorem nextIs_eq {r : R Fl} {ρ : Env} (h : nextIs r ρ = true) : ∃ a b : Int, r = .ok (.next ρ) [.lst [.int a, .int b]] := by
  unfold nextIs at h
  split at h
  · rename_i ρ1 a b
    exact ⟨a, b, by rw [sameE_eq _ _ h]⟩
  · cases h
theorem retTrue_eq {r : R Fl} (h : retTrue r = true) : ∃ a b : Int, r = .ok (.ret (.bl true)) [.lst [.int a, .int b]] := by
  unfold retTrue at h
  split at h
  · rename_i a b
    exact ⟨a, b, rfl⟩
  · cases h
end Ev
set_option Elab.async false
set_option linter.all false
set_option maxRecDepth 100000
set_option maxHeartbeats 1000000
/-! E37: rows by which a def's meaning is worked out. -/
namespace Ev
open PySem

section
variable {T : Tb} {call mk : Calls}
theorem y_v {i : Nat} {ρ : Env} {S : Store} : (den T call mk (.v i)).e ρ S = (match ρ[i]? with | some (some p) => R.ok p S | _ => .bad) := rfl
theorem y_vt {i : Nat} {p : PV} {ρ : Env} {S : Store} : (den T call mk (.v i)).t p ρ S = (if i < ρ.length then .ok (ρ.set i (some p)) S else .bad) := rfl
theorem y_k {p : PV} {ρ : Env} {S : Store} : (den T call mk (.k p)).e ρ S = .ok p S := rfl
theorem y_g {n : Nat} {ρ : Env} {S : Store} : (den T call mk (.g n)).e ρ S = opt T.globs[n]? S := rfl
theorem y_bin {o : BOp} {a b : C} {ρ : Env} {S : Store} : (den T call mk (.bin o a b)).e ρ S = ((den T call mk a).e ρ S).bind fun p S => ((den T call mk b).e ρ S).bind fun q S => binE T call o p q S := rfl
theorem y_neg {a : C} {ρ : Env} {S : Store} : (den T call mk (.neg a)).e ρ S = ((den T call mk a).e ρ S).bind fun p S => negE T call p S := rfl
theorem y_cmp {o : COp} {a b : C} {ρ : Env} {S : Store} : (den T call mk (.cmp o a b)).e ρ S = ((den T call mk a).e ρ S).bind fun p S => ((den T call mk b).e ρ S).bind fun q S => cmpE T call o p q S := rfl
theorem y_chain {o o' : COp} {a b c : C} {ρ : Env} {S : Store} : (den T call mk (.chain o o' a b c)).e ρ S = ((den T call mk a).e ρ S).bind fun p S => ((den T call mk b).e ρ S).bind fun q S => (cmpE T call o p q S).bind fun v S => match v with
        | .bl true => ((den T call mk c).e ρ S).bind fun r S => cmpE T call o' q r S
        | .bl false => .ok (.bl false) S
        | _ => .bad := rfl
theorem y_and {a b : C} {ρ : Env} {S : Store} : (den T call mk (.and a b)).e ρ S = ((den T call mk a).e ρ S).bind fun p S => match tru S p with
        | none => .bad
        | some true => (den T call mk b).e ρ S
        | some false => .ok p S := rfl
theorem y_or {a b : C} {ρ : Env} {S : Store} : (den T call mk (.or a b)).e ρ S = ((den T call mk a).e ρ S).bind fun p S => match tru S p with
        | none => .bad
        | some false => (den T call mk b).e ρ S
        | some true => .ok p S := rfl
theorem y_not {a : C} {ρ : Env} {S : Store} : (den T call mk (.not a)).e ρ S = ((den T call mk a).e ρ S).bind fun p S => match tru S p with
        | none => .bad
        | some b => .ok (.bl (!b)) S := rfl
theorem y_ite {t a b : C} {ρ : Env} {S : Store} : (den T call mk (.ite t a b)).e ρ S = ((den T call mk t).e ρ S).bind fun p S => match tru S p with
        | none => .bad
        | some true => (den T call mk a).e ρ S
        | some false => (den T call mk b).e ρ S := rfl
theorem y_nil {ρ : Env} {S : Store} : (den T call mk .nil).l ρ S = .ok [] S := rfl
theorem y_cons {a l : C} {ρ : Env} {S : Store} : (den T call mk (.cons a l)).l ρ S = ((den T call mk a).e ρ S).bind fun p S => ((den T call mk l).l ρ S).bind fun ps S => .ok (p :: ps) S := rfl
theorem y_star {a l : C} {ρ : Env} {S : Store} : (den T call mk (.star a l)).l ρ S = ((den T call mk a).e ρ S).bind fun p S => (opt (items S p) S).bind fun xs S => ((den T call mk l).l ρ S).bind fun ps S => .ok (xs ++ ps) S := rfl
theorem y_nilt {ρ : Env} {S : Store} : (den T call mk .nil).ts [] ρ S = .ok ρ S := rfl
theorem y_const {a l : C} {v : PV} {r : List PV} {ρ : Env} {S : Store} : (den T call mk (.cons a l)).ts (v :: r) ρ S = ((den T call mk a).t v ρ S).bind fun ρ S => (den T call mk l).ts r ρ S := rfl
theorem y_tup {l : C} {ρ : Env} {S : Store} : (den T call mk (.tup l)).e ρ S = ((den T call mk l).l ρ S).bind fun ps S => if ps.length ≤ lim then .ok (.tup ps) S else .bad := rfl
theorem y_tupt {l : C} {xs : List PV} {ρ : Env} {S : Store} : (den T call mk (.tup l)).t (.tup xs) ρ S = (den T call mk l).ts xs ρ S := rfl
theorem y_lst {l : C} {ρ : Env} {S : Store} : (den T call mk (.lst l)).e ρ S = ((den T call mk l).l ρ S).bind fun ps S => if ps.length ≤ lim then .ok (.lst ps) S else .bad := rfl
theorem y_lstc {l : C} {ρ : Env} {S : Store} : (den T call mk (.lstc l)).e ρ S = ((den T call mk l).l ρ S).bind fun ps S => if ps.length ≤ lim then .ok (.cell S.length) (S ++ [.lst ps]) else .bad := rfl
theorem y_ix {a b : C} {ρ : Env} {S : Store} : (den T call mk (.ix a b)).e ρ S = ((den T call mk a).e ρ S).bind fun p S => ((den T call mk b).e ρ S).bind fun q S => itemE p q S := rfl
theorem y_sl {a lo hi : C} {ρ : Env} {S : Store} : (den T call mk (.sl a lo hi)).e ρ S = ((den T call mk a).e ρ S).bind fun p S => (partE (isNil lo) (den T call mk lo).e ρ S).bind fun q S => (partE (isNil hi) (den T call mk hi).e ρ S).bind fun r S => opt (sliceD p q r S) S := rfl
theorem y_attr {a : C} {n : Nat} {ρ : Env} {S : Store} : (den T call mk (.attr a n)).e ρ S = ((den T call mk a).e ρ S).bind fun p S => attrE T call p n S := rfl
theorem y_call {f : Nat} {l : C} {perm : List Nat} {ρ : Env} {S : Store} : (den T call mk (.call f l perm)).e ρ S = ((den T call mk l).l ρ S).bind fun ps S => call f (permV perm ps) S := rfl
theorem y_make {c : Nat} {l : C} {perm : List Nat} {ρ : Env} {S : Store} : (den T call mk (.make c l perm)).e ρ S = ((den T call mk l).l ρ S).bind fun ps S => makeE T mk c (permV perm ps) S := rfl
theorem y_meth {a l : C} {n : Nat} {perm : List Nat} {ρ : Env} {S : Store} : (den T call mk (.meth a n l perm)).e ρ S = ((den T call mk a).e ρ S).bind fun p S => (opt (methF T p n S) S).bind fun f S => ((den T call mk l).l ρ S).bind fun ps S => call f (p :: permV perm ps) S := rfl
theorem y_cmeth {c n : Nat} {l : C} {perm : List Nat} {ρ : Env} {S : Store} : (den T call mk (.cmeth c n l perm)).e ρ S = ((den T call mk l).l ρ S).bind fun ps S => match cmethOf T c n with
      | some f => call f (.obj c :: permV perm ps) S
      | none => .bad := rfl
theorem y_callK {j : Nat} {l kl : C} {ρ : Env} {S : Store} : (den T call mk (.callK j l kl)).e ρ S = ((den T call mk l).l ρ S).bind fun ps S => ((den T call mk kl).l ρ S).bind fun qs S => callK T call j ps qs S := rfl
theorem y_methK {a l kl : C} {n j : Nat} {ρ : Env} {S : Store} : (den T call mk (.methK a n j l kl)).e ρ S = ((den T call mk a).e ρ S).bind fun p S => (opt (methF T p n S) S).bind fun f S => if isK T j f then ((den T call mk l).l ρ S).bind fun ps S => ((den T call mk kl).l ρ S).bind fun qs S => callK T call j (p :: ps) qs S else .bad := rfl
theorem y_blt {b : Blt} {l : C} {ρ : Env} {S : Store} : (den T call mk (.blt b l)).e ρ S = ((den T call mk l).l ρ S).bind fun ps S => bltE T call b ps S := rfl
theorem y_mth {m : Mth} {a l : C} {ρ : Env} {S : Store} : (den T call mk (.mth m a l)).e ρ S = ((den T call mk a).e ρ S).bind fun p S => if mthPre m p S then ((den T call mk l).l ρ S).bind fun ps S => mthE m p ps S else .bad := rfl
theorem y_comp {own : List Nat} {it tg cond elt : C} {ρ : Env} {S : Store} : (den T call mk (.comp own it tg cond elt)).e ρ S = ((den T call mk it).i ρ S).bind fun xs S => (compLoop (den T call mk tg).t (den T call mk cond).e (den T call mk elt).e (wipeE own ρ) xs S).bind fun ys S => sizeOk ys S := rfl
theorem y_freeze {a : C} {ρ : Env} {S : Store} : (den T call mk (.freeze a)).e ρ S = ((den T call mk a).e ρ S).bind fun p S => freezeR p S := rfl
theorem y_seq {a b : C} {ρ : Env} {S : Store} : (den T call mk (.seq a b)).s ρ S = ((den T call mk a).s ρ S).bindB fun f S => match f with
        | .next ρ => (den T call mk b).s ρ S
        | f => .ok f S := rfl
theorem y_pass {ρ : Env} {S : Store} : (den T call mk .pass).s ρ S = .ok (.next ρ) S := rfl
theorem y_set {tg a : C} {ρ : Env} {S : Store} : (den T call mk (.set tg a)).s ρ S = ((den T call mk a).e ρ S).bindS ρ fun p S => ((den T call mk tg).t p ρ S).bindB fun ρ S => .ok (.next ρ) S := rfl
theorem y_ret {a : C} {ρ : Env} {S : Store} : (den T call mk (.ret a)).s ρ S = ((den T call mk a).e ρ S).bindS ρ fun p S => .ok (.ret p) S := rfl
theorem y_expr {a : C} {ρ : Env} {S : Store} : (den T call mk (.expr a)).s ρ S = ((den T call mk a).e ρ S).bindS ρ fun _ S => .ok (.next ρ) S := rfl
theorem y_iff {t a b : C} {ρ : Env} {S : Store} : (den T call mk (.iff t a b)).s ρ S = ((den T call mk t).e ρ S).bindS ρ fun p S => match tru S p with
        | none => .bad
        | some true => (den T call mk a).s ρ S
        | some false => (den T call mk b).s ρ S := rfl
theorem y_for {tg it body : C} {ρ : Env} {S : Store} : (den T call mk (.for_ tg it body)).s ρ S = ((den T call mk it).i ρ S).bindS ρ fun xs S => forLoop (den T call mk tg).t (den T call mk body).s xs ρ S := rfl
/-! walks -/
theorem y_iv {i : Nat} {ρ : Env} {S : Store} : (den T call mk (.v i)).i ρ S = ((den T call mk (.v i)).e ρ S).bind fun p S => opt (itemsI S p) S := rfl
theorem y_itup {l : C} {ρ : Env} {S : Store} : (den T call mk (.tup l)).i ρ S = ((den T call mk (.tup l)).e ρ S).bind fun p S => opt (itemsI S p) S := rfl
theorem y_ilst {l : C} {ρ : Env} {S : Store} : (den T call mk (.lst l)).i ρ S = ((den T call mk (.lst l)).e ρ S).bind fun p S => opt (itemsI S p) S := rfl
theorem y_icall {f : Nat} {l : C} {perm : List Nat} {ρ : Env} {S : Store} : (den T call mk (.call f l perm)).i ρ S = ((den T call mk (.call f l perm)).e ρ S).bind fun p S => opt (itemsI S p) S := rfl
theorem y_ig {n : Nat} {ρ : Env} {S : Store} : (den T call mk (.g n)).i ρ S = ((den T call mk (.g n)).e ρ S).bind fun p S => opt (itemsI S p) S := rfl
theorem y_iattr {a : C} {n : Nat} {ρ : Env} {S : Store} : (den T call mk (.attr a n)).i ρ S = ((den T call mk (.attr a n)).e ρ S).bind fun p S => opt (itemsI S p) S := rfl
theorem y_icomp {own : List Nat} {it tg cond elt : C} {ρ : Env} {S : Store} : (den T call mk (.comp own it tg cond elt)).i ρ S = ((den T call mk (.comp own it tg cond elt)).e ρ S).bind fun p S => opt (itemsI S p) S := rfl
theorem y_range {l : C} {ρ : Env} {S : Store} : (den T call mk (.range l)).i ρ S = ((den T call mk l).l ρ S).bind fun ps S => opt (rangeD ps) S := rfl
theorem y_bind {α β : Type} (a : α) (S : Store) (f : α → Store → R β) : (R.ok a S).bind f = f a S := rfl
theorem y_bindB {α β : Type} (a : α) (S : Store) (f : α → Store → R β) : (R.ok a S).bindB f = f a S := rfl
theorem y_bindS {α : Type} (a : α) (S : Store) (ρ : Env) (f : α → Store → R Fl) : (R.ok a S).bindS ρ f = f a S := rfl
theorem y_opt {α : Type} (a : α) (S : Store) : opt (some a) S = .ok a S := rfl
/-! values -/
theorem v_bl {S : Store} {b : Bool} : tru S (.bl b) = some b := rfl
theorem v_add {p q : Int} {S : Store} : binE T call .add (.int p) (.int q) S = .ok (.int (p + q)) S := rfl
theorem v_sub {p q : Int} {S : Store} : binE T call .sub (.int p) (.int q) S = .ok (.int (p - q)) S := rfl
theorem v_mul {p q : Int} {S : Store} : binE T call .mul (.int p) (.int q) S = if mulOk p q then .ok (.int (p * q)) S else .bad := by
  show opt (if mulOk p q then some (PV.int (p * q)) else none) S = _
  split <;> rfl
theorem v_div {p q : Int} {S : Store} : binE T call .fdiv (.int p) (.int q) S = if divOk q then .ok (.int (p / q)) S else .bad := by
  show opt (if divOk q then some (PV.int (p / q)) else none) S = _
  split <;> rfl
theorem v_lt {p q : Int} {S : Store} : cmpE T call .lt (.int p) (.int q) S = .ok (.bl (decide (p < q))) S := rfl
theorem v_le {p q : Int} {S : Store} : cmpE T call .le (.int p) (.int q) S = .ok (.bl (decide (p ≤ q))) S := rfl
theorem v_gt {p q : Int} {S : Store} : cmpE T call .gt (.int p) (.int q) S = .ok (.bl (decide (q < p))) S := rfl
theorem v_ge {p q : Int} {S : Store} : cmpE T call .ge (.int p) (.int q) S = .ok (.bl (decide (q ≤ p))) S := rfl
theorem v_eqi {p q : Int} {S : Store} : cmpE T call .eq (.int p) (.int q) S = .ok (.bl (p == q)) S := rfl
theorem v_nei {p q : Int} {S : Store} : cmpE T call .ne (.int p) (.int q) S = .ok (.bl (!(p == q))) S := rfl
theorem v_eqs {p q : List Nat} {S : Store} : cmpE T call .eq (.str p) (.str q) S = .ok (.bl (p == q)) S := rfl
theorem v_nes {p q : List Nat} {S : Store} : cmpE T call .ne (.str p) (.str q) S = .ok (.bl (!(p == q))) S := rfl
theorem v_isn {p : Int} {S : Store} : cmpE T call .is_ (.int p) .non S = .ok (.bl false) S := rfl
theorem v_isnn {S : Store} : cmpE T call .is_ .non .non S = .ok (.bl true) S := rfl
theorem v_isni {p : Int} {S : Store} : cmpE T call .isnot (.int p) .non S = .ok (.bl true) S := rfl
theorem v_isnin {S : Store} : cmpE T call .isnot .non .non S = .ok (.bl false) S := rfl
theorem v_max {p q : Int} {S : Store} : bltE T call .max [.int p, .int q] S = .ok (.int (if q > p then q else p)) S := rfl
theorem v_min {p q : Int} {S : Store} : bltE T call .min [.int p, .int q] S = .ok (.int (if q < p then q else p)) S := rfl
/-! calls -/
theorem y_callN {n f : Nat} {vs as : List PV} {S : Store} {fn : Fn} (hf : T.fns[f]? = some fn) (ha : argsOf fn vs = some as) : callN T (n + 1) f vs S = endE S.length ((den T (callN T n) (callN T n) fn.body).s (envOf fn as) S) := by
  show (match T.fns[f]? with
    | none => R.bad
    | some fn => match argsOf fn vs with
      | none => .bad
      | some as => endE S.length ((den T (callN T n) (callN T n) fn.body).s (envOf fn as) S)) = _
  rw [hf]
  dsimp only
  rw [ha]
theorem after_same {n : Nat} {v : PV} {S : Store} (h : S.length = n) : after n v S = .ok v S := by
  unfold after
  rw [if_pos (by simp [h])]
theorem end_ret {n : Nat} {v : PV} {S : Store} (h : S.length = n) : endE n (.ok (.ret v) S) = .ok v S := after_same h
theorem end_next {n : Nat} {ρ : Env} {S : Store} (h : S.length = n) : endE n (.ok (.next ρ) S) = .ok .non S := after_same h
/-- what a def answers, from its body -/
theorem fn_ret {n f : Nat} {vs as : List PV} {S S' : Store} {fn : Fn} {v : PV} (hf : T.fns[f]? = some fn) (ha : argsOf fn vs = some as) (h : (den T (callN T n) (callN T n) fn.body).s (envOf fn as) S = .ok (.ret v) S') (hS : S'.length = S.length) : callN T (n + 1) f vs S = .ok v S' := by
  rw [y_callN hf ha, h, end_ret hS]
theorem fn_next {n f : Nat} {vs as : List PV} {S S' : Store} {fn : Fn} {ρ : Env} (hf : T.fns[f]? = some fn) (ha : argsOf fn vs = some as) (h : (den T (callN T n) (callN T n) fn.body).s (envOf fn as) S = .ok (.next ρ) S') (hS : S'.length = S.length) : callN T (n + 1) f vs S = .ok .non S' := by
  rw [y_callN hf ha, h, end_next hS]
/-! loops -/
/-- a loop keeps what holds of names and store, if every turn goes on -/
theorem for_inv {tg : PV → Env → Store → R Env} {body : Env → Store → R Fl} (I : Env → Store → Prop) : ∀ (xs : List PV) (ρ : Env) (S : Store), (∀ x ∈ xs, ∀ ρ S, I ρ S → ∃ ρ1 S1 ρ2 S2, tg x ρ S = .ok ρ1 S1 ∧ body ρ1 S1 = .ok (.next ρ2) S2 ∧ I ρ2 S2) → I ρ S → ∃ ρ' S', forLoop tg body xs ρ S = .ok (.next ρ') S' ∧ I ρ' S'
  | [], ρ, S, _, h => ⟨ρ, S, rfl, h⟩
  | x :: xs, ρ, S, hb, h => by
    obtain ⟨ρ1, S1, ρ2, S2, e1, e2, h2⟩ := hb x List.mem_cons_self ρ S h
    obtain ⟨ρ', S', e, h'⟩ := for_inv I xs ρ2 S2 (fun y hy => hb y (List.mem_cons_of_mem _ hy)) h2
    refine ⟨ρ', S', ?_, h'⟩
    show R.bindB (tg x ρ S) _ = _
    rw [e1]
    show R.bindB (body ρ1 S1) _ = _
    rw [e2]
    exact e
theorem for_cons {tg : PV → Env → Store → R Env} {body : Env → Store → R Fl} {x : PV} {xs : List PV} {ρ ρ1 ρ2 : Env} {S S1 S2 : Store} (e1 : tg x ρ S = .ok ρ1 S1) (e2 : body ρ1 S1 = .ok (.next ρ2) S2) : forLoop tg body (x :: xs) ρ S = forLoop tg body xs ρ2 S2 := by
  show R.bindB (tg x ρ S) _ = _
  rw [e1]
  show R.bindB (body ρ1 S1) _ = _
  rw [e2]
  rfl
theorem for_ret {tg : PV → Env → Store → R Env} {body : Env → Store → R Fl} {x : PV} {xs : List PV} {ρ ρ1 : Env} {S S1 S2 : Store} {v : PV} (e1 : tg x ρ S = .ok ρ1 S1) (e2 : body ρ1 S1 = .ok (.ret v) S2) : forLoop tg body (x :: xs) ρ S = .ok (.ret v) S2 := by
  show R.bindB (tg x ρ S) _ = _
  rw [e1]
  show R.bindB (body ρ1 S1) _ = _
  rw [e2]
  rfl
/-- a comprehension whose turns keep the store: what it keeps, and what it makes of it -/
theorem comp_pure {tg : PV → Env → Store → R Env} {cond elt : Env → Store → R PV} {ρ : Env} {S : Store} (c : PV → Bool) (g : PV → PV) : ∀ xs : List PV, (∀ x ∈ xs, ∃ ρ1, tg x ρ S = .ok ρ1 S ∧ cond ρ1 S = .ok (.bl (c x)) S ∧ (c x = true → elt ρ1 S = .ok (g x) S)) → compLoop tg cond elt ρ xs S = .ok ((xs.filter c).map g) S
  | [], _ => rfl
  | x :: xs, h => by
    obtain ⟨ρ1, e1, e2, e3⟩ := h x List.mem_cons_self
    have ih := comp_pure c g xs fun y hy => h y (List.mem_cons_of_mem _ hy)
    show R.bindB (tg x ρ S) _ = _
    rw [e1]
    show R.bindB (cond ρ1 S) _ = _
    rw [e2]
    cases hc : c x with
    | false =>
      show compLoop tg cond elt ρ xs S = _
      rw [ih, List.filter_cons_of_neg (by simp [hc])]
    | true =>
      show R.bindB (elt ρ1 S) _ = _
      rw [e3 hc]
      show R.bindB (after S.length (g x) S) _ = _
      rw [after_same rfl]
      show R.bindB (compLoop tg cond elt ρ xs S) _ = _
      rw [ih, List.filter_cons_of_pos hc]
      rfl
/-- a comprehension that draws: each turn leaves a store of the same kind -/
theorem comp_inv {tg : PV → Env → Store → R Env} {cond elt : Env → Store → R PV} {ρ : Env} (I : Store → Prop) (Q : PV → Prop) (hcond : ∀ ρ S, cond ρ S = .ok (.bl true) S) : ∀ (xs : List PV) (S : Store), (∀ x ∈ xs, ∀ S, I S → ∃ ρ1 v S1, tg x ρ S = .ok ρ1 S ∧ elt ρ1 S = .ok v S1 ∧ S1.length = S.length ∧ I S1 ∧ Q v) → I S → ∃ vs S', compLoop tg cond elt ρ xs S = .ok vs S' ∧ I S' ∧ vs.length = xs.length ∧ S'.length = S.length ∧ ∀ v ∈ vs, Q v
  | [], S, _, h => ⟨[], S, rfl, h, rfl, rfl, fun _ hv => absurd hv List.not_mem_nil⟩
  | x :: xs, S, hb, h => by
    obtain ⟨ρ1, v, S1, e1, e2, hl, hi, hq⟩ := hb x List.mem_cons_self S h
    obtain ⟨vs, S', e, hi', hl', hs', hq'⟩ := comp_inv I Q hcond xs S1 (fun y hy => hb y (List.mem_cons_of_mem _ hy)) hi
    refine ⟨v :: vs, S', ?_, hi', by rw [List.length_cons, hl', List.length_cons], hs'.trans hl, fun w hw => ?_⟩
    · show R.bindB (tg x ρ S) _ = _
      rw [e1]
      show R.bindB (cond ρ1 S) _ = _
      rw [hcond]
      show R.bindB (elt ρ1 S) _ = _
      rw [e2]
      show R.bindB (after S.length v S1) _ = _
      rw [after_same hl]
      show R.bindB (compLoop tg cond elt ρ xs S1) _ = _
      rw [e]
      rfl
    · rcases List.mem_cons.mp hw with rfl | hw
      · exact hq
      · exact hq' w hw
theorem size_ok {ys : List PV} {S : Store} (h : ys.length ≤ 1000000) : sizeOk ys S = .ok (.lst ys) S := by
  unfold sizeOk lim
  rw [if_pos h]
theorem v_isi {t : Ty} {p : PV} {S : Store} : bltE T call (.isi [t]) [p] S = (opt (isiO T t p) S).bind fun b S => .ok (.bl b) S := rfl
theorem strsO_map : ∀ ts : List (List Nat), strsO (ts.map .str) = some ts
  | [] => rfl
  | x :: r => by
    show (strsO (r.map .str)).map (x :: ·) = _
    rw [strsO_map r]
    rfl
theorem blsO_map : ∀ ts : List Bool, blsO (ts.map .bl) = some ts
  | [] => rfl
  | x :: r => by
    show (blsO (r.map .bl)).map (x :: ·) = _
    rw [blsO_map r]
    rfl
theorem fold_join : ∀ (ps : List (List Nat)) (acc : Array Nat), ((ps.map sT).foldl (fun a p => a ++ (sT []).cps ++ p.cps) acc).toList = acc.toList ++ ps.flatten
  | [], acc => by simp
  | p :: r, acc => by
    show ((r.map sT).foldl (fun a p => a ++ (sT []).cps ++ p.cps) (acc ++ (sT []).cps ++ (sT p).cps)).toList = _
    rw [fold_join r]
    simp [sT]
theorem join_flat (ps : List (List Nat)) : uT (Txt.join (sT []) (ps.map sT)) = ps.flatten := by
  cases ps with
  | nil => rfl
  | cons p r =>
    show ((r.map sT).foldl (fun a p => a ++ (sT []).cps ++ p.cps) (sT p).cps).toList = _
    rw [fold_join]
    simp [sT]
theorem sumLen_flat : ∀ ps : List (List Nat), sumLen ps = ps.flatten.length
  | [] => rfl
  | p :: r => by
    show p.length + sumLen r = _
    rw [sumLen_flat r, List.flatten_cons, List.length_append]
theorem join_ok {ps : List (List Nat)} {S : Store} (h : okS ps.flatten = true) : mthE .join (.str []) [.lst (ps.map .str)] S = .ok (.str ps.flatten) S := by
  have hl : ps.flatten.length ≤ lim := by
    unfold okS at h
    simp only [Bool.and_eq_true, decide_eq_true_eq] at h
    exact h.1
  have : mthD .join (.str []) [.lst (ps.map .str)] S = some (.str ps.flatten, S) := by
    show (strsO (ps.map .str)).bind (fun ts => if decide (sumLen ts + ts.length * ([] : List Nat).length ≤ lim) then (newS (Txt.join (sT []) (ts.map sT))).map fun r => (r, S) else none) = _
    rw [strsO_map]
    show (if decide (sumLen ps + ps.length * 0 ≤ lim) = true then (newS (Txt.join (sT []) (ps.map sT))).map fun r => (r, S) else none) = _
    rw [sumLen_flat, if_pos (by simpa using hl)]
    unfold newS
    rw [join_flat, if_pos h]
    rfl
  unfold mthE
  rw [this]
theorem flat_one (cs : List Nat) : (cs.map fun c => [c]).flatten = cs := by
  induction cs with
  | nil => rfl
  | cons c r ih => rw [List.map_cons, List.flatten_cons, ih]; rfl
theorem joinC_ok {cs : List Nat} {S : Store} (h : okS cs = true) : mthE .join (.str []) [.lst (cs.map fun c => .str [c])] S = .ok (.str cs) S := by
  have := join_ok (ps := cs.map fun c => [c]) (S := S) (by rw [flat_one]; exact h)
  rw [flat_one, List.map_map] at this
  exact this
theorem okS_of {cs : List Nat} (hl : cs.length ≤ 1000) (h : ∀ c ∈ cs, c < 1000) : okS cs = true := by
  unfold okS lim
  rw [Bool.and_eq_true]
  exact ⟨decide_eq_true (by omega), List.all_eq_true.mpr fun c hc => decide_eq_true (by have := h c hc; omega)⟩
theorem signs_map : ∀ cs : List Nat, signs cs = cs.map fun c => .str [c]
  | [] => rfl
  | c :: r => by
    show PV.str [c] :: signs r = _
    rw [signs_map r]
    rfl
end
end Ev
set_option Elab.async false
set_option linter.all false
set_option maxRecDepth 100000
set_option maxHeartbeats 1000000
/-! E38: a small head: what is to be known of the text, looked up in one kernel run behind the top. -/
namespace Ev
open PySem L2 He
open PyProof.Rows hiding St

/-- where a def stands -/
inductive Loc where
  | glo (x : Str)
  | meth (c m : Str)
  | prop (c m : Str)
  | cm (c m : Str)
def recA (K : PySem.W.Frag) (p : Addr) (t : String) : Addr := match PySem.W.recIn K p t with
  | some (.ref a :: _) => a
  | _ => 0
def Loc.addr (K : PySem.W.Frag) : Loc → Addr
  | .glo x => ga K x
  | .meth c m => ma K (ga K c) m
  | .prop c m => recA K (ma K (ga K c) m) "property"
  | .cm c m => recA K (ma K (ga K c) m) "classmethod"
theorem recA_ok {K : PySem.W.Frag} {p : Addr} {t : String} {a : Addr} (h : (match PySem.W.recIn K p t with | some (.ref b :: _) => decide (b = a) | _ => false) = true) : ∃ rest, PySem.W.recIn K p t = some (.ref a :: rest) := by
  split at h
  · rename_i b r e
    have := of_decide_eq_true h
    subst this
    exact ⟨r, e⟩
  · cases h
def recB (K : PySem.W.Frag) (p : Addr) (t : String) (a : Addr) : Bool := match PySem.W.recIn K p t with | some (.ref b :: _) => decide (b = a) | _ => false

/-! ### the facts, asked -/
theorem allL_all {α : Type} {p : α → Prop} {b : α → Bool} (h : ∀ x, b x = true → p x) : ∀ {l : List α}, l.all b = true → AllL p l
  | [], _ => trivial
  | x :: r, e => by
    rw [List.all_cons] at e
    obtain ⟨e1, e2⟩ := and2 e
    exact ⟨h x e1, allL_all h e2⟩
def allI {α : Type} (b : Nat → α → Bool) : Nat → List α → Bool
  | _, [] => true
  | i, x :: r => b i x && allI b (i + 1) r
theorem allI_all {α : Type} {p : Nat → α → Prop} {b : Nat → α → Bool} (h : ∀ i x, b i x = true → p i x) : ∀ {i : Nat} {l : List α}, allI b i l = true → AllI p i l
  | _, [], _ => trivial
  | i, x :: r, e => by
    obtain ⟨e1, e2⟩ := and2 (show (b i x && allI b (i + 1) r) = true from e)
    exact ⟨h i x e1, allI_all h e2⟩
def gloB (K : PySem.W.Frag) (x : Str) (a : Addr) : Bool := eqO (PySem.W.nsIn K mainGlobals x) (some (some (.ref a)))
def glB1 (A : Stc) (K : PySem.W.Frag) (q : Str × Nat) : Bool := match A.T.globs[q.2]? with
  | some (.int i) => (match PySem.W.nsIn K mainGlobals q.1 with
    | some (some (.int j _)) => decide (j = i)
    | _ => false)
  | some (.str x) => (match PySem.W.nsIn K mainGlobals q.1 with
    | some (some (.str y _)) => decide (sT x = y) && okS x
    | _ => false)
  | some (.tup ps) => (match strsO ps with
    | some xs => (match PySem.W.nsIn K mainGlobals q.1 with
      | some (some (.ref a)) => (match K.lookup a with
        | some ⟨.type c, _, .seq its _, _⟩ => decide (c = "tuple") && (decide (its.size ≤ 1000) && strsV xs its.toList)
        | _ => false)
      | _ => false)
    | none => false)
  | _ => false
theorem strsO_inv : ∀ {ps : List PV} {xs : List (List Nat)}, strsO ps = some xs → ps = xs.map .str
  | [], xs, h => by cases h; rfl
  | p :: r, xs, h => by
    cases p <;> first | cases h | skip
    rename_i x
    have h' : (strsO r).map (x :: ·) = some xs := h
    obtain ⟨ys, e, rfl⟩ := Option.map_eq_some_iff.mp h'
    rw [strsO_inv e]
    rfl
theorem glB1_ok {A : Stc} {K : PySem.W.Frag} {Cs : List Addr} {q : Str × Nat} (h : glB1 A K q = true) : ∃ p v u, A.T.globs[q.2]? = some p ∧ PySem.W.nsIn K mainGlobals q.1 = some (some u) ∧ RelV v u ∧ rv (rtOf A K Cs) (fun _ => none) [] p v := by
  unfold glB1 at h
  split at h
  · rename_i i e
    split at h
    · rename_i j t e2
      have := of_decide_eq_true h
      subst this
      exact gl_int e e2
    · cases h
  · rename_i x e
    split at h
    · rename_i y t e2
      obtain ⟨h1, h2⟩ := and2 h
      exact gl_str e (of_decide_eq_true h1) h2 e2
    · cases h
  · rename_i ps e
    split at h
    · rename_i xs e2
      have e3 := strsO_inv e2
      subst e3
      split at h
      · rename_i a e4
        split at h
        · rename_i c d its n sl e5
          obtain ⟨h1, h2⟩ := and2 h
          have := of_decide_eq_true h1
          subst this
          exact gl_tupS e e4 e5 h2
        · cases h
      · cases h
    · cases h
  · cases h
/-- a dict of texts: all but its keys' hashes -/
def gdB1 (A : Stc) (K : PySem.W.Frag) (q : Str × Nat) : Bool := match A.T.globs[q.2]? with
  | some (.dct ks vs) => (match strsO vs with
    | some xs => gloB K q.1 (ga K q.1) && lookS K (ga K q.1) ks xs
    | none => false)
  | _ => false
def gdKeys (A : Stc) (q : Str × Nat) : List Str := match A.T.globs[q.2]? with
  | some (.dct ks _) => ks.map sT
  | _ => []
theorem gdB1_ok {A : Stc} {K : PySem.W.Frag} {w : World} {Cs : List Addr} {q : Str × Nat} (h : gdB1 A K q = true) (hk : dicW K (ga K q.1) = some (keysIn w.params (gdKeys A q))) : ∃ p u, A.T.globs[q.2]? = some p ∧ PySem.W.nsIn K mainGlobals q.1 = some (some u) ∧ KdOk (rtOf A K Cs) w u p := by
  unfold gdB1 at h
  split at h
  · rename_i ks vs e
    split at h
    · rename_i xs e2
      have e3 := strsO_inv e2
      subst e3
      obtain ⟨h1, h2⟩ := and2 h
      obtain ⟨es, n, kd⟩ := dicW_ok hk
      exact gd_of e (eqO_ok h1) kd h2
    · cases h
  · cases h
/-- the text's own class -/
def clB1 (A : Stc) (K : PySem.W.Frag) (fas Cs : List Addr) (c : Nat) (kl : Cls) : Bool :=
  let C := Cs.getD c 0
  (PySem.W.plainGet K C Str.empty && PySem.W.hasDictIn K C && PySem.W.plainOver K C && eqO (PySem.W.findIn K (.ref C) "__setattr__") (some (some (.builtin "object.__setattr__")))) &&
  (PySem.W.makesIn K C && eqO (PySem.W.findIn K (.ref C) "__init__") (some (some (.ref (fas.getD kl.init 0)))) && PySem.W.isFn K (.ref (fas.getD kl.init 0)) && PySem.W.keepIn K (.ref C)) &&
  (kl.fields.all fun n => eqO (PySem.W.findIn K (.ref C) (A.nm n)) (some none)) && decide ((kl.fields.map A.nm).Nodup) && decide (kl.fields.length < 1000) &&
  (kl.meths.all fun q => eqO (PySem.W.findIn K (.ref C) (A.nm q.1)) (some (some (.ref (fas.getD q.2 0)))) && PySem.W.isFn K (.ref (fas.getD q.2 0)) && PySem.W.keepIn K (.ref (fas.getD q.2 0))) &&
  (kl.meths.all fun q => !(kl.fields.map A.nm).contains (A.nm q.1)) &&
  (kl.props.all fun q => eqO (PySem.W.findIn K (.ref C) (A.nm q.1)) (some (some (.ref (ma K C (A.nm q.1))))) && eqO (PySem.W.specialIn K (.ref (ma K C (A.nm q.1))) "__get__") (some (some (.builtin "property.__get__"))) && decide (PySem.W.takesIn K (.ref (ma K C (A.nm q.1))) = some true) && recB K (ma K C (A.nm q.1)) "property" (fas.getD q.2 0)) &&
  (PySem.W.selfFirst K C && eqO (PySem.W.findIn K (.ref C) "__ne__") (some (some (.builtin "object.__ne__"))) && decide (PySem.W.mroIn K C (.type "object") = some true) && eqO (PySem.W.findIn K (.ref C) "__format__") (some (some (.builtin "object.__format__")))) &&
  allI (fun d (_ : Cls) => PySem.W.notFirst K C (.ref (Cs.getD d 0))) 0 A.T.cls &&
  (eqO (PySem.W.findIn K (.ref C) "__class__") (some (some (.builtin "object.__class__"))) && eqO (PySem.W.specialIn K (.builtin "object.__class__") "__get__") (some (some (.builtin "getset_descriptor.__get__"))) && decide (PySem.W.takesIn K (.builtin "object.__class__") = some true)) &&
  allI (fun d (_ : Cls) => decide (PySem.W.kitOne K (.ref C) (.ref (Cs.getD d 0)) = some (d == c))) 0 A.T.cls &&
  (["int", "str", "bool", "tuple", "list"].all fun T => decide (PySem.W.kitOne K (.ref C) (.type T) = some false)) &&
  (["NoneType", "int", "str", "bool", "tuple", "list"].all fun T => decide (PySem.W.kitOne K (.type T) (.ref C) = some false)) &&
  (kl.cms.all fun q => PySem.W.readsIn K C (.type "type") && eqO (PySem.W.specialIn K (.ref C) "__getattribute__") (some (some (.builtin "type.__getattribute__"))) &&
    (match PySem.W.findCls K (.ref C) (.type "type") (A.nm q.1) with
      | some (.get (.builtin g) (.ref p) .none (.ref D)) => decide (g = "classmethod.__get__") && decide (D = C) && recB K p "classmethod" (fas.getD q.2 0)
      | _ => false) && PySem.W.fnIn K (fas.getD q.2 0))
theorem clB1_ok {A : Stc} {K : PySem.W.Frag} {fas Cs : List Addr} {c : Nat} {kl : Cls} (h : clB1 A K fas Cs c kl = true) : ClsF A K fas Cs c kl := by
  unfold clB1 at h
  dsimp only at h
  obtain ⟨h, h16⟩ := and2 h
  obtain ⟨h, h15⟩ := and2 h
  obtain ⟨h, h14⟩ := and2 h
  obtain ⟨h, h13⟩ := and2 h
  obtain ⟨h, h12⟩ := and2 h
  obtain ⟨h, h11⟩ := and2 h
  obtain ⟨h, h10⟩ := and2 h
  obtain ⟨h, h9⟩ := and2 h
  obtain ⟨h, h8⟩ := and2 h
  obtain ⟨h, h7⟩ := and2 h
  obtain ⟨h, h6⟩ := and2 h
  obtain ⟨h, h5⟩ := and2 h
  obtain ⟨h, h4⟩ := and2 h
  obtain ⟨h1, h2⟩ := and2 h
  obtain ⟨h1, a4⟩ := and2 h1
  obtain ⟨h1, a3⟩ := and2 h1
  obtain ⟨a1, a2⟩ := and2 h1
  obtain ⟨h2, b4⟩ := and2 h2
  obtain ⟨h2, b3⟩ := and2 h2
  obtain ⟨b1, b2⟩ := and2 h2
  obtain ⟨h10, c4⟩ := and2 h10
  obtain ⟨h10, c3⟩ := and2 h10
  obtain ⟨c1, c2⟩ := and2 h10
  obtain ⟨h12, d3⟩ := and2 h12
  obtain ⟨d1, d2⟩ := and2 h12
  exact {
    cl := ⟨a1, a2, a3, eqO_ok a4⟩
    made := ⟨b1, eqO_ok b2, b3, b4⟩
    fld := allL_all (fun n e => eqO_ok e) h4
    nd := of_decide_eq_true h5
    len := of_decide_eq_true h6
    met := allL_all (fun q e => by obtain ⟨e, e3⟩ := and2 e; obtain ⟨e1, e2⟩ := and2 e; exact ⟨eqO_ok e1, e2, e3⟩) h7
    mno := h8
    prop := allL_all (fun q e => by
      obtain ⟨e, e4⟩ := and2 e
      obtain ⟨e, e3⟩ := and2 e
      obtain ⟨e1, e2⟩ := and2 e
      exact ⟨_, eqO_ok e1, eqO_ok e2, of_decide_eq_true e3, recA_ok e4⟩) h9
    sf := c1
    ne := eqO_ok c2
    ob := of_decide_eq_true c3
    fm := eqO_ok c4
    nf := allI_all (fun i x e => e) h11
    ha := eqO_ok d1
    hn := eqO_ok d2
    htk := of_decide_eq_true d3
    own := allI_all (fun i x e => of_decide_eq_true e) h13
    blt := allL_all (fun T e => of_decide_eq_true e) h14
    of_ := allL_all (fun T e => of_decide_eq_true e) h15
    cm := allL_all (fun q e => by
      obtain ⟨e, e4⟩ := and2 e
      obtain ⟨e, e3⟩ := and2 e
      obtain ⟨e1, e2⟩ := and2 e
      split at e3
      · rename_i g p D ef
        obtain ⟨e3, f3⟩ := and2 e3
        obtain ⟨f1, f2⟩ := and2 e3
        have f1 := of_decide_eq_true f1
        have f2 := of_decide_eq_true f2
        subst f1; subst f2
        exact ⟨.type "type", p, ⟨e1, eqO_ok e2⟩, ⟨ef, recA_ok f3, e4⟩⟩
      · cases e3) h16 }
def nmB12 (A : Stc) : Bool := decide (A.nm nEq = "__eq__") && decide (A.nm nLen = "__len__") && decide (A.nm nStr = "__str__") && decide (A.nm nRepr = "__repr__") && decide (A.nm nIn = "__contains__") && decide (A.nm nNeg = "__neg__") && decide (A.nm nBool = "__bool__") && decide (A.nm 8 = "__add__") && decide (A.nm 9 = "__sub__") && decide (A.nm 10 = "__mul__") && decide (A.nm 11 = "__or__") && decide (A.nm 12 = "__and__")
/-- all facts but the keyword calls' and the dicts' keys -/
def factsB (A : Stc) (K : PySem.W.Frag) (fas Cs : List Addr) : Bool :=
  (A.gf.all fun q => gloB K q.1 (fas.getD q.2 0) && PySem.W.keepIn K (.ref (fas.getD q.2 0))) && (A.gc.all fun q => gloB K q.1 (Cs.getD q.2 0)) && A.gg.all (glB1 A K) && A.gd.all (gdB1 A K) && (A.bl.all fun x => eqO (PySem.W.nsIn K mainGlobals x) (some none)) && allI (clB1 A K fas Cs) 0 A.T.cls && nmB12 A
theorem facts_ok {A : Stc} {K : PySem.W.Frag} {w : World} {fas Cs : List Addr} (h : factsB A K fas Cs = true) (hd : A.gd.map (fun q => dicW K (ga K q.1)) = A.gd.map fun q => some (keysIn w.params (gdKeys A q))) (kw : AllL (fun ki => KwOk (rtOf A K Cs) (fun i => fas.getD i 0) ki) A.T.kws) : Facts A K w fas Cs := by
  unfold factsB at h
  obtain ⟨h, h7⟩ := and2 h
  obtain ⟨h, h6⟩ := and2 h
  obtain ⟨h, h5⟩ := and2 h
  obtain ⟨h, h4⟩ := and2 h
  obtain ⟨h, h3⟩ := and2 h
  obtain ⟨h1, h2⟩ := and2 h
  refine { fn := allL_all (fun q e => by obtain ⟨e1, e2⟩ := and2 e; exact ⟨eqO_ok e1, e2⟩) h1, cls := allL_all (fun q e => eqO_ok e) h2, gl := allL_all (fun q e => glB1_ok e) h3, gd := ?_, bl := allL_all (fun x e => eqO_ok e) h5, cl := allI_all (fun i x e => clB1_ok e) h6, kw := kw, nm := ?_ }
  · revert hd h4
    induction A.gd with
    | nil => exact fun _ _ => trivial
    | cons q r ih =>
      intro hd h4
      rw [List.all_cons] at h4
      obtain ⟨e1, e2⟩ := and2 h4
      rw [List.map_cons, List.map_cons] at hd
      injection hd with d1 d2
      exact ⟨gdB1_ok e1 d1, ih d2 e2⟩
  · unfold nmB12 at h7
    simp only [Bool.and_eq_true, decide_eq_true_eq] at h7
    obtain ⟨⟨⟨⟨⟨⟨⟨⟨⟨⟨⟨a1, a2⟩, a3⟩, a4⟩, a5⟩, a6⟩, a7⟩, a8⟩, a9⟩, a10⟩, a11⟩, a12⟩ := h7
    exact ⟨⟨a1, a2, a3, a4, a5⟩, a6, a7, a8, a9, a10, a11, a12⟩
/-! ### defs -/
def fnWA (K : PySem.W.Frag) (a : Addr) : FnW := match K.lookup a with
  | some ⟨_, _, .func fd, _⟩ => some (fd.name, fd.qualname, fd.params, fd.body, fd.scope, fd.globals, fd.closure, fd.builtins)
  | _ => none
def FI.val (fi : FI) : FnW := some (fi.name, fi.qual, defArgs fi.st, .stmts (defBody fi.st), defScope fi.st, mainGlobals, [], builtinsNs)
def isNoneV : Value → Bool
  | .none => true
  | _ => false
def dfB (K : PySem.W.Frag) : Value → Bool
  | .none => true
  | .ref T => (match K.lookup T with
    | some ⟨_, _, .seq _ _, _⟩ => true
    | _ => false)
  | _ => false
/-- nd: the def has no defaults -/
def funB (K : PySem.W.Frag) (fi : FI) (nd : Bool) (a : Addr) : Bool := PySem.W.keepIn K (.ref a) && (match K.lookup a with
  | some ⟨_, _, .func fd, _⟩ => PySem.W.codeIn K fd.code fi.qual && dfB K fd.defaults && (!nd || isNoneV fd.defaults)
  | _ => false)
theorem funB_ok {K : PySem.W.Frag} {fi : FI} {nd : Bool} {a : Addr} (h : funB K fi nd a = true) (e : fnWA K a = fi.val) : ∃ fd, FunX K fi.name fi.qual fi.st a fd ∧ (nd = true → fd.defaults = .none) := by
  obtain ⟨kp, c⟩ := and2 h
  unfold fnWA at e
  cases q : K.lookup a with
  | none => rw [q] at c; cases c
  | some o =>
    obtain ⟨oc, od, dt, osl⟩ := o
    rw [q] at c e
    cases dt with
    | func fd =>
      obtain ⟨n1, n2, n3, n4, n5, n6, n7, n8, n9, n10, n11, n12, n13, n14, n15⟩ := fd
      have e2 : (some (n1, n2, n3, n4, n5, n6, n7, n15) : FnW) = some (fi.name, fi.qual, defArgs fi.st, .stmts (defBody fi.st), defScope fi.st, mainGlobals, [], builtinsNs) := e
      simp only [Option.some.injEq, Prod.mk.injEq] at e2
      obtain ⟨h1, h2, h3, h4, h5, h6, h7, h8⟩ := e2
      subst h1 h2 h3 h4 h5 h6 h7 h8
      have c3 : (PySem.W.codeIn K n13 fi.qual && dfB K n8 && (!nd || isNoneV n8)) = true := c
      obtain ⟨c4, k3⟩ := and2 c3
      obtain ⟨k1, k2⟩ := and2 c4
      refine ⟨_, ⟨⟨oc, od, n8, n9, n10, n11, n12, n13, n14, osl, rfl, q, k1, ?_⟩, kp⟩, fun hn => ?_⟩
      · cases n8 <;> first | exact .inl rfl | cases k2 | skip
        rename_i T
        have k2' : (match K.lookup T with
          | some ⟨_, _, .seq _ _, _⟩ => true
          | _ => false) = true := k2
        split at k2'
        · rename_i c d its n sl eT
          exact .inr ⟨T, _, its, n, rfl, eT, rfl⟩
        · cases k2'
      · subst hn
        have k3' : isNoneV n8 = true := k3
        cases n8 <;> first | rfl | cases k3'
    | _ => cases c
def funsB (K : PySem.W.Frag) : List FI → List Bool → List Addr → Bool
  | [], [], [] => true
  | fi :: r, n :: m, a :: q => funB K fi (n || fi.star.isSome) a && funsB K r m q
  | _, _, _ => false
/-- the defs, and of those that are marked that they have no defaults -/
def FunsNd (K : PySem.W.Frag) : List FI → List Bool → List Addr → Prop
  | [], [], [] => True
  | fi :: r, n :: m, a :: q => (∃ fd, FunX K fi.name fi.qual fi.st a fd ∧ ((n || fi.star.isSome) = true → fd.defaults = .none)) ∧ FunsNd K r m q
  | _, _, _ => False
theorem funsB_ok {K : PySem.W.Frag} : ∀ {fis : List FI} {nds : List Bool} {as : List Addr}, funsB K fis nds as = true → as.map (fnWA K) = fis.map FI.val → FunsNd K fis nds as
  | [], [], [], _, _ => trivial
  | fi :: r, n :: m, a :: q, h, e => by
    obtain ⟨h1, h2⟩ := and2 h
    rw [List.map_cons, List.map_cons] at e
    injection e with e1 e2
    exact ⟨funB_ok h1 e1, funsB_ok h2 e2⟩
  | [], [], _ :: _, h, _ => by cases h
  | [], _ :: _, _, h, _ => by cases h
  | _ :: _, [], _, h, _ => by cases h
  | _ :: _, _ :: _, [], h, _ => by cases h
theorem funsNd_at {K : PySem.W.Frag} : ∀ {fis : List FI} {nds : List Bool} {as : List Addr}, FunsNd K fis nds as → FunsAt K fis as
  | [], [], [], _ => trivial
  | fi :: r, n :: m, a :: q, h => by
    obtain ⟨⟨fd, h1, h2⟩, h3⟩ := h
    exact ⟨⟨fd, h1, fun hs => h2 (by rw [hs, Bool.or_true])⟩, funsNd_at h3⟩
  | [], [], _ :: _, h => h.elim
  | [], _ :: _, [], h => h.elim
  | [], _ :: _, _ :: _, h => h.elim
  | _ :: _, [], [], h => h.elim
  | _ :: _, [], _ :: _, h => h.elim
  | _ :: _, _ :: _, [], h => h.elim
theorem funsNd_get {K : PySem.W.Frag} : ∀ {fis : List FI} {nds : List Bool} {as : List Addr}, FunsNd K fis nds as → ∀ {i : Nat} {fi : FI}, fis[i]? = some fi → nds[i]? = some true → ∃ fd, FunX K fi.name fi.qual fi.st (as.getD i 0) fd ∧ fd.defaults = .none
  | [], [], [], _, i, fi, e, _ => by simp at e
  | fi :: r, n :: m, a :: q, h, 0, fi', e, e2 => by
    cases e
    cases e2
    obtain ⟨⟨fd, h1, h2⟩, _⟩ := h
    exact ⟨fd, h1, h2 rfl⟩
  | fi :: r, n :: m, a :: q, h, i + 1, fi', e, e2 => funsNd_get h.2 (i := i) e e2
  | [], [], _ :: _, h, _, _, _, _ => h.elim
  | [], _ :: _, [], h, _, _, _, _ => h.elim
  | [], _ :: _, _ :: _, h, _, _, _, _ => h.elim
  | _ :: _, [], [], h, _, _, _, _ => h.elim
  | _ :: _, [], _ :: _, h, _, _, _, _ => h.elim
  | _ :: _, _ :: _, [], h, _, _, _, _ => h.elim
/-! ### the look -/
/-- what the module's names reach in so many steps, layer by layer -/
def layG (g : Addr → Option Obj) : Nat → List Addr → List Addr
  | 0, as => as
  | n + 1, as => as ++ layG g n (as.flatMap fun a => match g a with
    | some o => refsD o
    | none => [])
structure HdL where
  A : Stc
  fis : List FI
  nds : List Bool
  locs : List Loc
  cls : List Str
def frNats {α : Type} : List Nat → (List Nat → α) → α
  | [], k => k []
  | x :: r, k => HandSHeadRun.frNat x fun x => frNats r fun r => k (x :: r)
theorem frNats_eq {α : Type} : ∀ (l : List Nat) (k : List Nat → α), frNats l k = k l
  | [], k => rfl
  | x :: r, k => by
    show HandSHeadRun.frNat x (fun x => frNats r fun r => k (x :: r)) = _
    rw [HandSHeadRun.frNat_eq, frNats_eq r]
abbrev AlL : Type := Bool × List FnW × List (Option (List (Option (Str × Int))))
def HdL.obsK (D : HdL) (K : PySem.W.Frag) (fas Cs : List Addr) : AlL := (factsB D.A K fas Cs && funsB K D.fis D.nds fas, fas.map (fnWA K), D.A.gd.map fun q => dicW K (ga K q.1))
def HdL.obs (D : HdL) (n : Nat) (g : Addr → Option Obj) : AlL :=
  frNats ((PySem.cStatics :: layG g n [mainGlobals])) fun as => frNats (D.locs.map (Loc.addr (frG g as))) fun fas => frNats (D.cls.map (ga (frG g as))) fun Cs => D.obsK (frG g as) fas Cs
def HdL.val (D : HdL) (w : World) : AlL := (true, D.fis.map FI.val, D.A.gd.map fun q => some (keysIn w.params (gdKeys D.A q)))
structure HdL.Says (D : HdL) (w : World) (K : PySem.W.Frag) : Prop where
  e : D.obsK K (D.locs.map (Loc.addr K)) (D.cls.map (ga K)) = D.val w
theorem HdL.obs_eq {D : HdL} {n : Nat} {g : Addr → Option Obj} : D.obs n g = D.obsK (frG g ((PySem.cStatics :: layG g n [mainGlobals]))) (D.locs.map (Loc.addr (frG g ((PySem.cStatics :: layG g n [mainGlobals]))))) (D.cls.map (ga (frG g ((PySem.cStatics :: layG g n [mainGlobals]))))) := by
  unfold HdL.obs
  rw [frNats_eq, frNats_eq, frNats_eq]
def HdL.hook (D : HdL) (n : Nat) : PySem.W.Hook where
  α := AlL
  obs := fun s => D.obs n s.heap.get?
  val := fun w => D.val w
  says := fun w h => ∃ K : PySem.W.Frag, K.In h ∧ D.Says w K
  of := fun w s e => ⟨_, frG_in (as := PySem.cStatics :: layG s.heap.get? n [mainGlobals]), ⟨HdL.obs_eq.symm.trans e⟩⟩
  keeps := fun _ _ _ ⟨K, hK, c⟩ k => ⟨K, PySem.W.Frag.In.keeps hK k, c⟩
theorem HdL.ob_eq {D : HdL} {n : Nat} {g : Addr → Option Obj} {s : Shared} (h : ∀ a, g a = s.heap.get? a) : D.obs n g = (D.hook n).obs s := by
  have e : g = s.heap.get? := funext h
  rw [e] <;> rfl
section
variable {D : HdL} {K : PySem.W.Frag} {w : World}
theorem HdL.Says.funs (c : D.Says w K) : FunsNd K D.fis D.nds (D.locs.map (Loc.addr K)) := by
  have e := c.e
  unfold HdL.obsK HdL.val at e
  injection e with e1 e2
  injection e2 with e2 e3
  exact funsB_ok (and2 e1).2 e2
theorem HdL.Says.facts (c : D.Says w K) (kw : AllL (fun ki => KwOk (rtOf D.A K (D.cls.map (ga K))) (fun i => (D.locs.map (Loc.addr K)).getD i 0) ki) D.A.T.kws) : Facts D.A K w (D.locs.map (Loc.addr K)) (D.cls.map (ga K)) := by
  have e := c.e
  unfold HdL.obsK HdL.val at e
  injection e with e1 e2
  injection e2 with e2 e3
  exact facts_ok (and2 e1).1 e3 kw
end
/-- a keyword call of a def of the text -/
theorem kw_okN {D : HdL} {K : PySem.W.Frag} {ki : Kwi} {fi : FI} (F : FunsNd K D.fis D.nds (D.locs.map (Loc.addr K))) (hi : D.fis[ki.f]? = some fi) (hn : D.nds[ki.f]? = some true) (hd : ki.d = []) (hva : (defArgs fi.st).vararg.isNone = true)
    (hb : ∀ (kV doc pm : Value) (an : Option Addr) (cdv ct : Value) (us ws : List Value), us.length = ki.n → ws.length = ki.ks.length → (defArgs fi.st).args.length = (permL ki.perm (us ++ ws ++ [])).length ∧ bindArgs (PySem.W.fnOf fi.name fi.qual (defArgs fi.st) (defBody fi.st) (defScope fi.st) .none kV doc pm an cdv ct) ⟨us, ki.ks.zip ws⟩ = pure (((defArgs fi.st).args.map (·.arg)).zip (permL ki.perm (us ++ ws ++ [])))) :
    KwOk (rtOf D.A K (D.cls.map (ga K))) (fun i => (D.locs.map (Loc.addr K)).getD i 0) ki := by
  obtain ⟨fd, F1, hdn⟩ := funsNd_get F hi hn
  exact kw_ok (G := rtOf D.A K (D.cls.map (ga K))) (fa := fun i => (D.locs.map (Loc.addr K)).getD i 0) F1 hdn hd hva hb
/-- the law, from its def's promise at every script, the written part of the heap being found -/
theorem walk_ofGE {l : PySem.W.OpenLaw} {n k : Nat} {q : Program} {loose : List Str} {XP : (Str → Option Value) → Heap → Prop} {YP : World → Heap → Prop} {d : DefRec} {sp : World → PySem.W.Frag → Sp}
    (hn : l.most = some n) (hn2 : n ≤ sizeLine) (hdf : d.params.defaults = []) (hr : Room k callerA)
    (F : ∀ (w : World) (mg : Str → Option Value) (fa : Addr) (h : Heap), YP w h → h.Ns mainGlobals mg → mg d.name = some (.ref fa) →
      ∃ K : PySem.W.Frag, K.In h ∧ ∀ base : Heap, K.In base → base.Ns mainGlobals mg → FnG l.prog w K mg base k fa (sp w K))
    (hsp : ∀ (w : World) (K : PySem.W.Frag) (H : Hp) (a : Addr) (ns : List Int), ns.length ≤ n → (∀ z ∈ ns, Builtin.Int.intBits z ≤ 1048576) → Only H → SqL K H a (ns.map V.int) → sp w K [.ref a] H (fun v _ => v = .bl true) fun _ _ _ => False) :
    PySem.W.WalkO q loose XP YP l.row.toRowW d [] (fun f vs => PySem.call f vs) := by
  refine Att.attach_callB hn hdf fun w s₀ s₁ mg mb fa o pm cd doc a vs ns G Y ho hd hcd hmg hobj hints hlen hbits hg => ?_
  obtain ⟨K, KX, F1⟩ := F w mg fa _ Y G.T.g hmg
  exact law_callG KX G.T.g G.T.b G.T.builtins G.T.nolimit hg hobj hints (Nat.le_trans hlen hn2) hr F1 fun H hO hS => hsp w K H a ns hlen hbits hO hS
/-- what the law's def promises, from the look and the plain run -/
theorem HdL.fin {D : HdL} {K : PySem.W.Frag} {mg : Str → Option Value} {base : Heap} {P : Program} {w : World} {fa : Addr} {m law n : Nat} {x : Str} (c : D.Says w K) (KX : K.In base) (ns : base.Ns mainGlobals mg) (hmg : mg x = some (.ref fa)) (hl : D.locs[law]? = some (.glo x)) (hg : D.A.gf.contains (x, law) = true ∨ gloB K x (ga K x) = true)
    (hB : defsB D.A D.fis D.A.T.fns = true) (kw : FunsNd K D.fis D.nds (D.locs.map (Loc.addr K)) → AllL (fun ki => KwOk (rtOf D.A K (D.cls.map (ga K))) (fun i => (D.locs.map (Loc.addr K)).getD i 0) ki) D.A.T.kws)
    (run : ∀ ns : List Int, ns.length ≤ n → (∀ z ∈ ns, Builtin.Int.intBits z ≤ 1048576) → ∃ S', callN D.A.T m law [scrV ns] [] = .ok (.bl true) S') : FnG P w K mg base (2 * m) fa (lawSp K n) := by
  have X := c.facts (kw c.funs)
  have hget : (D.locs.map (Loc.addr K)).getD law 0 = ga K x := by
    rw [List.getD_eq_getElem?_getD, List.getElem?_map, hl]
    rfl
  have e : mg x = some (.ref (ga K x)) := by
    rcases hg with hg | hg
    · have := (allL_of X.fn (x, law) (by simpa using hg)).1
      rw [← hget]
      exact PySem.W.mg_of KX ns this
    · exact PySem.W.mg_of KX ns (eqO_ok hg)
  rw [hmg] at e
  have e := Value.ref.inj (Option.some.inj e)
  rw [e, ← hget]
  exact law_fin (w := w) (A := D.A) (fis := D.fis) (fas := D.locs.map (Loc.addr K)) (Cs := D.cls.map (ga K)) (law := law) KX ns hB X (funsNd_at c.funs) run
end Ev
set_option Elab.async false
set_option linter.all false
set_option maxRecDepth 100000
set_option maxHeartbeats 0
namespace K04
open Ev
def f0l0b : C :=
  (.set (.v 2) (.bin .fdiv (.bin .mul (.v 2) (.bin .sub (.v 0) (.v 3))) (.bin .add (.v 3) (.k (.int 1)))))
def f0l0 : C :=
  .for_ (.v 3) (.range (.cons (.v 1) .nil)) f0l0b
/-- 0: binomial; many, some, found, k -/
def f0 : C :=
  (.seq (.iff (.or (.cmp .lt (.v 1) (.k (.int 0))) (.cmp .gt (.v 1) (.v 0))) (.ret (.k (.int 0))) .pass)
  (.seq (.set (.v 2) (.k (.int 1)))
  (.seq f0l0
  (.ret (.v 2)))))
def f1l0b : C :=
  (.set (.v 1) (.bin .mul (.v 1) (.k (.int 2))))
def f1l0 : C :=
  .for_ (.v 2) (.range (.cons (.v 0) .nil)) f1l0b
/-- 1: doubled; times, found, turn -/
def f1 : C :=
  (.seq (.set (.v 1) (.k (.int 1)))
  (.seq f1l0
  (.ret (.v 1))))
def f2l0b : C :=
  (.seq (.set (.v 6) (.bin .fdiv (.bin .mul (.v 5) (.bin .sub (.v 3) (.v 1))) (.v 3)))
  (.iff (.cmp .lt (.v 2) (.v 6)) (.set (.tup (.cons (.v 4) (.cons (.v 5) .nil))) (.tup (.cons (.bin .add (.v 4) (.k (.str [48]))) (.cons (.v 6) .nil)))) (.seq (.set (.v 5) (.bin .sub (.v 5) (.v 6)))
  (.set (.tup (.cons (.v 4) (.cons (.v 2) (.cons (.v 1) .nil)))) (.tup (.cons (.bin .add (.v 4) (.k (.str [49]))) (.cons (.bin .sub (.v 2) (.v 6)) (.cons (.bin .sub (.v 1) (.k (.int 1))) .nil))))))))
def f2l0 : C :=
  .for_ (.v 3) (.range (.cons (.v 0) (.cons (.k (.int 0)) (.cons (.neg (.k (.int 1))) .nil)))) f2l0b
/-- 2: text_with; many, ones, index, left, found, here, ahead -/
def f2 : C :=
  (.seq (.set (.tup (.cons (.v 4) (.cons (.v 5) .nil))) (.tup (.cons (.k (.str [])) (.cons (.call 0 (.cons (.v 0) (.cons (.v 1) .nil)) []) .nil))))
  (.seq f2l0
  (.ret (.v 4))))
def f3l0b : C :=
  (.seq (.set (.v 6) (.bin .sub (.blt .len (.cons (.v 0) .nil)) (.v 4)))
  (.seq (.set (.v 7) (.bin .fdiv (.bin .mul (.v 1) (.bin .sub (.v 6) (.v 3))) (.v 6)))
  (.iff (.cmp .eq (.v 5) (.k (.str [49]))) (.set (.tup (.cons (.v 2) (.cons (.v 1) (.cons (.v 3) .nil)))) (.tup (.cons (.bin .add (.v 2) (.v 7)) (.cons (.bin .sub (.v 1) (.v 7)) (.cons (.bin .sub (.v 3) (.k (.int 1))) .nil))))) (.set (.v 1) (.v 7)))))
def f3l0 : C :=
  .for_ (.tup (.cons (.v 4) (.cons (.v 5) .nil))) (.enum (.v 0)) f3l0b
/-- 3: index_with; text, here, found, ones, place, sign, left, ahead -/
def f3 : C :=
  (.seq (.set (.tup (.cons (.v 2) (.cons (.v 3) .nil))) (.tup (.cons (.k (.int 0)) (.cons (.mth .count (.v 0) (.cons (.k (.str [49])) .nil)) .nil))))
  (.seq (.set (.v 1) (.call 0 (.cons (.blt .len (.cons (.v 0) .nil)) (.cons (.v 3) .nil)) []))
  (.seq f3l0
  (.ret (.v 2)))))
def f4l0b : C :=
  (.seq (.set (.v 4) (.ite (.v 2) (.v 3) (.bin .sub (.v 0) (.v 3))))
  (.seq (.set (.v 5) (.call 0 (.cons (.v 0) (.cons (.v 4) .nil)) []))
  (.seq (.iff (.cmp .lt (.v 1) (.v 5)) (.ret (.call 2 (.cons (.v 0) (.cons (.v 4) (.cons (.v 1) .nil))) [])) .pass)
  (.set (.v 1) (.bin .sub (.v 1) (.v 5))))))
def f4l0 : C :=
  .for_ (.v 3) (.range (.cons (.bin .add (.v 0) (.k (.int 1))) .nil)) f4l0b
/-- 4: text_by_ones; many, index, is_rising, step, ones, here -/
def f4 : C :=
  (.seq f4l0
  (.ret (.k .non)))
def f5c0e : C :=
  (.call 0 (.cons (.blt .len (.cons (.v 0) .nil)) (.cons (.v 4) .nil)) [])
def f5c0 : C :=
  .comp [4] (.v 3) (.v 4) (.k (.bl true)) f5c0e
/-- 5: index_by_ones; text, is_rising, ones, ahead, some -/
def f5 : C :=
  (.seq (.set (.v 2) (.mth .count (.v 0) (.cons (.k (.str [49])) .nil)))
  (.seq (.set (.v 3) (.ite (.v 1) (.lrange false (.cons (.v 2) .nil)) (.lrange false (.cons (.bin .add (.v 2) (.k (.int 1))) (.cons (.bin .add (.blt .len (.cons (.v 0) .nil)) (.k (.int 1))) .nil)))))
  (.ret (.bin .add (.blt .sum (.cons f5c0 .nil)) (.call 3 (.cons (.v 0) .nil) [])))))
/-- 6: is_integer; value -/
def f6 : C :=
  (.ret (.and (.blt (.isi [.int]) (.cons (.v 0) .nil)) (.not (.blt (.isi [.bool]) (.cons (.v 0) .nil)))))
/-- 7: is_index; value, many -/
def f7 : C :=
  (.ret (.and (.call 6 (.cons (.v 0) .nil) []) (.chain .le .lt (.k (.int 0)) (.v 0) (.v 1))))
def f8c0e : C :=
  (.cmp .isin (.v 2) (.k (.str [48, 49])))
def f8c0 : C :=
  .comp [2] (.v 0) (.v 2) (.k (.bl true)) f8c0e
/-- 8: is_signs; value, many, sign -/
def f8 : C :=
  (.ret (.and (.blt (.isi [.str]) (.cons (.v 0) .nil)) (.and (.cmp .eq (.blt .len (.cons (.v 0) .nil)) (.v 1)) (.blt .all (.cons f8c0 .nil)))))
/-- 9: is_way; value -/
def f9 : C :=
  (.ret (.and (.blt (.isi [.str]) (.cons (.v 0) .nil)) (.cmp .isin (.v 0) (.g 1))))
/-- 10: check_way; way -/
def f10 : C :=
  (.iff (.not (.call 9 (.cons (.v 0) .nil) [])) (.raise (.k .non)) .pass)
/-- 11: check_switches; switches -/
def f11 : C :=
  (.iff (.or (.not (.call 6 (.cons (.v 0) .nil) [])) (.cmp .lt (.v 0) (.k (.int 1)))) (.raise (.k .non)) .pass)
def f12c0q : C :=
  (.cmp .isin (.v 2) (.tup (.cons (.k (.str [48, 49])) (.cons (.k (.str [49, 48])) .nil))))
def f12c0e : C :=
  (.v 2)
def f12c0 : C :=
  .comp [2] (.v 0) (.v 2) f12c0q f12c0e
/-- 12: sides_of; ways, apart, way -/
def f12 : C :=
  (.seq (.set (.v 1) (.blt .len (.cons f12c0 .nil)))
  (.ret (.tup (.cons (.v 1) (.cons (.bin .sub (.blt .len (.cons (.v 0) .nil)) (.v 1)) .nil)))))
/-- 13: most_of; ways, trials, apart, same -/
def f13 : C :=
  (.seq (.set (.tup (.cons (.v 2) (.cons (.v 3) .nil))) (.call 12 (.cons (.v 0) .nil) []))
  (.seq (.iff (.cmp .eq (.v 2) (.k (.int 0))) (.ret (.ite (.cmp .ge (.v 1) (.v 3)) (.k .non) (.k (.int 1)))) .pass)
  (.seq (.iff (.cmp .eq (.v 2) (.k (.int 1))) (.ret (.call 1 (.cons (.blt .max (.cons (.k (.int 0)) (.cons (.bin .sub (.v 1) (.v 3)) .nil))) .nil) [])) .pass)
  (.seq (.iff (.cmp .eq (.v 3) (.k (.int 2))) (.ret (.blt .max (.cons (.k (.int 1)) (.cons (.call 0 (.cons (.bin .sub (.v 1) (.k (.int 1))) (.cons (.bin .sub (.bin .fdiv (.v 1) (.k (.int 2))) (.k (.int 1))) .nil)) []) .nil)))) .pass)
  (.ret (.blt .max (.cons (.k (.int 1)) (.cons (.call 0 (.cons (.v 1) (.cons (.bin .add (.bin .fdiv (.v 1) (.k (.int 2))) (.v 3)) .nil)) []) .nil))))))))
def f14l0b : C :=
  (.seq (.set (.v 4) (.call 13 (.cons (.v 0) (.cons (.bin .sub (.bin .add (.v 2) (.v 3)) (.k (.int 1))) .nil)) []))
  (.iff (.and (.cmp .isnot (.v 4) (.k .non)) (.cmp .lt (.v 4) (.v 1))) (.set (.v 2) (.bin .add (.v 2) (.v 3))) .pass))
def f14l0 : C :=
  .for_ (.v 3) (.tup (.cons (.k (.int 128)) (.cons (.k (.int 64)) (.cons (.k (.int 32)) (.cons (.k (.int 16)) (.cons (.k (.int 8)) (.cons (.k (.int 4)) (.cons (.k (.int 2)) (.cons (.k (.int 1)) .nil))))))))) f14l0b
/-- 14: fewest_of; ways, switches, trials, step, most -/
def f14 : C :=
  (.seq (.set (.v 2) (.k (.int 0)))
  (.seq f14l0
  (.ret (.v 2))))
/-- 15: head_of; ways -/
def f15 : C :=
  (.ret (.bin .add (.ite (.cmp .isin (.k (.str [49, 49])) (.v 0)) (.k (.str [49])) (.k (.str []))) (.ite (.cmp .isin (.k (.str [48, 48])) (.v 0)) (.k (.str [48])) (.k (.str [])))))
/-- 16: ones_of; ways, trials -/
def f16 : C :=
  (.seq (.iff (.cmp .isin (.k (.str [49, 49])) (.v 0)) (.ret (.bin .add (.bin .fdiv (.v 1) (.k (.int 2))) (.k (.int 1)))) .pass)
  (.ret (.ite (.cmp .isin (.k (.str [48, 48])) (.v 0)) (.bin .sub (.bin .sub (.v 1) (.bin .fdiv (.v 1) (.k (.int 2)))) (.k (.int 1))) (.bin .fdiv (.v 1) (.k (.int 2))))))
/-- 17: column_of; ways, trials, index, apart, same -/
def f17 : C :=
  (.seq (.set (.tup (.cons (.v 3) (.cons (.v 4) .nil))) (.call 12 (.cons (.v 0) .nil) []))
  (.seq (.iff (.cmp .eq (.v 3) (.k (.int 0))) (.ret (.kd 3 (.mth .join (.k (.str [32])) (.cons (.v 0) .nil)))) .pass)
  (.seq (.iff (.cmp .eq (.v 3) (.k (.int 1))) (.ret (.bin .add (.call 15 (.cons (.v 0) .nil) []) (.call 4 (.cons (.bin .sub (.v 1) (.v 4)) (.cons (.v 2) (.cons (.cmp .isin (.k (.str [48, 49])) (.v 0)) .nil))) []))) .pass)
  (.seq (.iff (.cmp .eq (.v 4) (.k (.int 2))) (.ret (.bin .add (.k (.str [49])) (.call 2 (.cons (.bin .sub (.v 1) (.k (.int 1))) (.cons (.bin .sub (.bin .fdiv (.v 1) (.k (.int 2))) (.k (.int 1))) (.cons (.v 2) .nil))) []))) .pass)
  (.ret (.call 2 (.cons (.v 1) (.cons (.call 16 (.cons (.v 0) (.cons (.v 1) .nil)) []) (.cons (.v 2) .nil))) []))))))
/-- 18: index_of; ways, column, trials, apart, same, is_there -/
def f18 : C :=
  (.seq (.set (.tup (.cons (.v 3) (.cons (.v 4) .nil))) (.call 12 (.cons (.v 0) .nil) []))
  (.seq (.set (.v 2) (.blt .len (.cons (.v 1) .nil)))
  (.seq (.iff (.cmp .eq (.v 3) (.k (.int 0))) (.ret (.ite (.cmp .eq (.v 1) (.kd 3 (.mth .join (.k (.str [32])) (.cons (.v 0) .nil)))) (.k (.int 0)) (.k .non))) .pass)
  (.seq (.iff (.cmp .eq (.v 3) (.k (.int 1))) (.ret (.ite (.cmp .eq (.sl (.v 1) .nil (.v 4)) (.call 15 (.cons (.v 0) .nil) [])) (.call 5 (.cons (.sl (.v 1) (.v 4) .nil) (.cons (.cmp .isin (.k (.str [48, 49])) (.v 0)) .nil)) []) (.k .non))) .pass)
  (.seq (.iff (.cmp .eq (.v 4) (.k (.int 2))) (.seq (.set (.v 5) (.and (.cmp .eq (.ix (.v 1) (.k (.int 0))) (.k (.str [49]))) (.cmp .eq (.mth .count (.v 1) (.cons (.k (.str [49])) .nil)) (.bin .fdiv (.v 2) (.k (.int 2))))))
  (.ret (.ite (.v 5) (.call 3 (.cons (.sl (.v 1) (.k (.int 1)) .nil) .nil) []) (.k .non)))) .pass)
  (.ret (.ite (.cmp .eq (.mth .count (.v 1) (.cons (.k (.str [49])) .nil)) (.call 16 (.cons (.v 0) (.cons (.v 2) .nil)) [])) (.call 3 (.cons (.v 1) .nil) []) (.k .non))))))))
def f19l0b : C :=
  (.expr (.call 10 (.cons (.v 2) .nil) []))
def f19l0 : C :=
  .for_ (.v 2) (.v 1) f19l0b
def f19c0q : C :=
  (.cmp .isin (.v 2) (.v 1))
def f19c0e : C :=
  (.v 2)
def f19c0 : C :=
  .comp [2] (.g 1) (.v 2) f19c0q f19c0e
/-- 19: Demand.__init__; self, ways, way -/
def f19 : C :=
  (.seq f19l0
  (.set (.attr (.v 0) 31) (.blt .tuple (.cons f19c0 .nil))))
/-- 20: Demand.read; cls, text, demand -/
def f20 : C :=
  (.seq (.set (.v 2) (.call 41 (.cons (.v 1) .nil) []))
  (.seq (.iff (.cmp .is_ (.v 2) (.k .non)) (.raise (.k .non)) .pass)
  (.ret (.v 2))))
/-- 21: Demand.ways; self -/
def f21 : C :=
  (.ret (.attr (.v 0) 31))
def f22c0e : C :=
  (.rev (.v 1))
def f22c0 : C :=
  .comp [1] (.attr (.v 0) 31) (.v 1) (.k (.bl true)) f22c0e
/-- 22: Demand.turned; self, way -/
def f22 : C :=
  (.ret (.call 37 (.cons f22c0 .nil) []))
/-- 23: Demand.most; self, trials -/
def f23 : C :=
  (.seq (.iff (.or (.not (.call 6 (.cons (.v 1) .nil) [])) (.cmp .lt (.v 1) (.k (.int 0)))) (.raise (.k .non)) .pass)
  (.seq (.iff (.cmp .gt (.v 1) (.g 0)) (.raise (.k .non)) .pass)
  (.ret (.call 13 (.cons (.attr (.v 0) 31) (.cons (.v 1) .nil)) []))))
/-- 24: Demand.fewest; self, switches -/
def f24 : C :=
  (.seq (.expr (.call 39 (.cons (.v 1) .nil) []))
  (.ret (.call 14 (.cons (.attr (.v 0) 31) (.cons (.v 1) .nil)) [])))
/-- 25: Demand.column; self, switches, index -/
def f25 : C :=
  (.seq (.expr (.call 39 (.cons (.v 1) .nil) []))
  (.seq (.iff (.not (.call 7 (.cons (.v 2) (.cons (.v 1) .nil)) [])) (.raise (.k .non)) .pass)
  (.ret (.ite (.cmp .eq (.v 1) (.k (.int 1))) (.k (.str [])) (.call 17 (.cons (.attr (.v 0) 31) (.cons (.call 14 (.cons (.attr (.v 0) 31) (.cons (.v 1) .nil)) []) (.cons (.v 2) .nil))) [])))))
/-- 26: Demand.place; self, switches, column, found -/
def f26 : C :=
  (.seq (.expr (.call 39 (.cons (.v 1) .nil) []))
  (.seq (.iff (.not (.call 8 (.cons (.v 2) (.cons (.call 14 (.cons (.attr (.v 0) 31) (.cons (.v 1) .nil)) []) .nil)) [])) (.raise (.k .non)) .pass)
  (.seq (.set (.v 3) (.ite (.cmp .eq (.v 1) (.k (.int 1))) (.k (.int 0)) (.call 18 (.cons (.attr (.v 0) 31) (.cons (.v 2) .nil)) [])))
  (.ret (.ite (.and (.cmp .isnot (.v 3) (.k .non)) (.cmp .lt (.v 3) (.v 1))) (.v 3) (.k .non))))))
def f27c0q : C :=
  (.or (.cmp .isin (.v 2) (.attr (.v 0) 31)) (.cmp .isin (.v 2) (.attr (.v 1) 31)))
def f27c0e : C :=
  (.v 2)
def f27c0 : C :=
  .comp [2] (.g 1) (.v 2) f27c0q f27c0e
/-- 27: Demand.__or__; self, other, way -/
def f27 : C :=
  (.seq (.expr (.call 38 (.cons (.v 1) .nil) []))
  (.ret (.call 37 (.cons f27c0 .nil) [])))
def f28c0q : C :=
  (.cmp .isin (.v 2) (.attr (.v 1) 31))
def f28c0e : C :=
  (.v 2)
def f28c0 : C :=
  .comp [2] (.attr (.v 0) 31) (.v 2) f28c0q f28c0e
/-- 28: Demand.__and__; self, other, way -/
def f28 : C :=
  (.seq (.expr (.call 38 (.cons (.v 1) .nil) []))
  (.ret (.call 37 (.cons f28c0 .nil) [])))
def f29c0q : C :=
  (.cmp .notin (.v 2) (.attr (.v 1) 31))
def f29c0e : C :=
  (.v 2)
def f29c0 : C :=
  .comp [2] (.attr (.v 0) 31) (.v 2) f29c0q f29c0e
/-- 29: Demand.__sub__; self, other, way -/
def f29 : C :=
  (.seq (.expr (.call 38 (.cons (.v 1) .nil) []))
  (.ret (.call 37 (.cons f29c0 .nil) [])))
def f30c0e : C :=
  (.call 40 (.cons (.v 1) .nil) [])
def f30c0 : C :=
  .comp [1] (.attr (.v 0) 31) (.v 1) (.k (.bl true)) f30c0e
/-- 30: Demand.__neg__; self, way -/
def f30 : C :=
  (.ret (.call 37 (.cons f30c0 .nil) []))
/-- 31: Demand.__contains__; self, value -/
def f31 : C :=
  (.ret (.and (.call 9 (.cons (.v 1) .nil) []) (.cmp .isin (.v 1) (.attr (.v 0) 31))))
/-- 32: Demand.__len__; self -/
def f32 : C :=
  (.ret (.blt .len (.cons (.attr (.v 0) 31) .nil)))
/-- 33: Demand.__bool__; self -/
def f33 : C :=
  (.ret (.k (.bl true)))
/-- 34: Demand.__eq__; self, other -/
def f34 : C :=
  (.ret (.and (.blt (.isi [(.own 0)]) (.cons (.v 1) .nil)) (.cmp .eq (.attr (.v 0) 31) (.attr (.v 1) 31))))
/-- 35: Demand.__str__; self -/
def f35 : C :=
  (.ret (.fstr (.cons (.fmt (.ite (.cmp .ne (.attr (.v 0) 31) (.tup .nil)) (.mth .join (.k (.str [32])) (.cons (.attr (.v 0) 31) .nil)) (.k (.str [110, 111, 110, 101])))) .nil)))
/-- 36: Demand.__repr__; self -/
def f36 : C :=
  (.ret (.fstr (.cons (.k (.str [68, 101, 109, 97, 110, 100, 32])) (.cons (.fmt (.v 0)) .nil))))
/-- 37: demand_of; ways -/
def f37 : C :=
  (.ret (.make 0 (.star (.v 0) .nil) []))
/-- 38: check_demand; demand -/
def f38 : C :=
  (.iff (.not (.blt (.isi [(.own 0)]) (.cons (.v 0) .nil))) (.raise (.k .non)) .pass)
/-- 39: check_asked; switches -/
def f39 : C :=
  (.seq (.expr (.call 11 (.cons (.v 0) .nil) []))
  (.iff (.cmp .gt (.v 0) (.g 2)) (.raise (.k .non)) .pass))
def f40c0e : C :=
  (.ite (.cmp .eq (.v 1) (.k (.str [48]))) (.k (.str [49])) (.k (.str [48])))
def f40c0 : C :=
  .comp [1] (.v 0) (.v 1) (.k (.bl true)) f40c0e
/-- 40: exchanged; signs, sign -/
def f40 : C :=
  (.ret (.mth .join (.k (.str [])) (.cons f40c0 .nil)))
def f41c0q : C :=
  (.cmp .isin (.v 2) (.v 1))
def f41c0e : C :=
  (.v 2)
def f41c0 : C :=
  .comp [2] (.g 1) (.v 2) f41c0q f41c0e
/-- 41: demand_with; text, ways, way -/
def f41 : C :=
  (.seq (.iff (.not (.blt (.isi [.str]) (.cons (.v 0) .nil))) (.ret (.k .non)) .pass)
  (.seq (.set (.v 1) (.ite (.cmp .eq (.v 0) (.k (.str [110, 111, 110, 101]))) (.tup .nil) (.blt .tuple (.cons (.mth .split (.v 0) (.cons (.k (.str [32])) .nil)) .nil))))
  (.ret (.ite (.cmp .eq (.v 1) (.blt .tuple (.cons f41c0 .nil))) (.call 37 (.cons (.v 1) .nil) []) (.k .non)))))
def f42l0b : C :=
  (.set (.v 3) (.bin .mod (.blt .int (.cons (.bin .add (.bin .add (.bin .mul (.v 3) (.k (.int 48271))) (.bin .mod (.blt .int (.cons (.v 4) .nil)) (.k (.int 2147483647)))) (.k (.int 101))) .nil)) (.k (.int 2147483647))))
def f42l0 : C :=
  .for_ (.v 4) (.bin .add (.sl (.v 0) .nil (.k (.int 5))) (.lst (.cons (.v 2) .nil))) f42l0b
/-- 42: _law_purse; _law_script, _law_spot, _law_cell, _law_seed, _law_one -/
def f42 : C :=
  (.seq (.set (.v 2) (.ite (.cmp .lt (.v 1) (.blt .len (.cons (.v 0) .nil))) (.ix (.v 0) (.v 1)) (.bin .mul (.k (.int 7919)) (.bin .add (.v 1) (.k (.int 5))))))
  (.seq (.set (.v 3) (.bin .add (.k (.int 211)) (.v 1)))
  (.seq f42l0
  (.ret (.lstc (.cons (.ite (.cmp .ge (.blt .abs (.cons (.v 2) .nil)) (.bin .pow (.k (.int 10)) (.k (.int 18)))) (.blt .abs (.cons (.v 2) .nil)) (.k (.int 0))) (.cons (.v 3) .nil)))))))
/-- 43: _law_draw; _law_purse_here, _law_many, _law_digit -/
def f43 : C :=
  (.seq (.iff (.cmp .gt (.ix (.v 0) (.k (.int 0))) (.k (.int 0))) (.seq (.set (.tup (.cons (.ix (.v 0) (.k (.int 0))) (.cons (.v 2) .nil))) (.blt .divmod (.cons (.ix (.v 0) (.k (.int 0))) (.cons (.v 1) .nil))))
  (.ret (.v 2))) .pass)
  (.seq (.set (.ix (.v 0) (.k (.int 1))) (.bin .mod (.blt .int (.cons (.bin .add (.bin .mul (.ix (.v 0) (.k (.int 1))) (.k (.int 69621))) (.k (.int 40503))) .nil)) (.k (.int 2147483647))))
  (.ret (.bin .mod (.blt .int (.cons (.bin .fdiv (.ix (.v 0) (.k (.int 1))) (.k (.int 1024))) .nil)) (.v 1)))))
/-- 44: _law_text; _law_ways -/
def f44 : C :=
  (.ret (.ite (.cmp .ne (.v 0) (.tup .nil)) (.mth .join (.k (.str [32])) (.cons (.v 0) .nil)) (.k (.str [110, 111, 110, 101]))))
def f45c0e : C :=
  (.bin .add (.v 2) (.tup (.cons (.v 1) .nil)))
def f45c0 : C :=
  .comp [2] (.v 0) (.v 2) (.k (.bl true)) f45c0e
def f45l0b : C :=
  (.set (.v 0) (.bin .add (.v 0) f45c0))
def f45l0 : C :=
  .for_ (.v 1) (.lst (.cons (.k (.str [48, 48])) (.cons (.k (.str [48, 49])) (.cons (.k (.str [49, 48])) (.cons (.k (.str [49, 49])) .nil))))) f45l0b
/-- 45: _law_demands; _law_found, _law_one, _law_ways -/
def f45 : C :=
  (.seq (.set (.v 0) (.lst (.cons (.tup .nil) .nil)))
  (.seq f45l0
  (.ret (.v 0))))
def f46c0e : C :=
  (.ix (.k (.str [49, 48])) (.blt .int (.cons (.v 1) .nil)))
def f46c0 : C :=
  .comp [1] (.v 0) (.v 1) (.k (.bl true)) f46c0e
/-- 46: _law_flipped; _law_item, _law_sign -/
def f46 : C :=
  (.ret (.mth .join (.k (.str [])) (.cons f46c0 .nil)))
def f47c0e : C :=
  (.cmeth 0 24 (.cons (.call 44 (.cons (.v 5) .nil) []) .nil) [])
def f47c0 : C :=
  .comp [5] (.v 1) (.v 5) (.k (.bl true)) f47c0e
def f47c1q : C :=
  (.cmp .isin (.v 10) (.v 7))
def f47c1e : C :=
  (.v 10)
def f47c1 : C :=
  .comp [10] (.v 5) (.v 10) f47c1q f47c1e
def f47c2q : C :=
  (.cmp .notin (.v 10) (.v 7))
def f47c2e : C :=
  (.v 10)
def f47c2 : C :=
  .comp [10] (.v 5) (.v 10) f47c2q f47c2e
def f47l1b : C :=
  (.seq (.set (.v 8) (.lst (.cons (.attr (.bin .bor (.v 4) (.v 6)) 25) (.cons (.attr (.bin .band (.v 4) (.v 6)) 25) (.cons (.attr (.bin .sub (.v 4) (.v 6)) 25) .nil)))))
  (.seq (.set (.v 9) (.lst (.cons (.blt .tuple (.cons (.sset (.bin .add (.v 5) (.v 7))) .nil)) (.cons (.blt .tuple (.cons f47c1 .nil)) .nil))))
  (.iff (.cmp .ne (.v 8) (.bin .add (.v 9) (.lst (.cons (.blt .tuple (.cons f47c2 .nil)) .nil)))) (.ret (.k (.bl false))) .pass)))
def f47l1 : C :=
  .for_ (.tup (.cons (.v 6) (.cons (.v 7) .nil))) (.zip (.v 2) (.v 1)) f47l1b
def f47c3e : C :=
  (.call 46 (.cons (.v 10) .nil) [])
def f47c3 : C :=
  .comp [10] (.v 5) (.v 10) (.k (.bl true)) f47c3e
def f47c4e : C :=
  (.rev (.v 10))
def f47c4 : C :=
  .comp [10] (.v 5) (.v 10) (.k (.bl true)) f47c4e
def f47l0b : C :=
  (.seq f47l1
  (.seq (.iff (.or (.cmp .ne (.attr (.neg (.v 4)) 25) (.blt .tuple (.cons (.blt .sorted (.cons f47c3 .nil)) .nil))) (.cmp .ne (.neg (.neg (.v 4))) (.v 4))) (.ret (.k (.bl false))) .pass)
  (.iff (.or (.cmp .ne (.attr (.meth (.v 4) 26 .nil []) 25) (.blt .tuple (.cons (.blt .sorted (.cons f47c4 .nil)) .nil))) (.cmp .ne (.meth (.meth (.v 4) 26 .nil []) 26 .nil []) (.v 4))) (.ret (.k (.bl false))) .pass)))
def f47l0 : C :=
  .for_ (.tup (.cons (.v 4) (.cons (.v 5) .nil))) (.zip (.v 2) (.v 1)) f47l0b
def f47c5e : C :=
  (.attr (.v 4) 25)
def f47c5 : C :=
  .comp [4] (.v 2) (.v 4) (.k (.bl true)) f47c5e
/-- 47: _law_right; _law_purse_here, _law_every, _law_made, _law_k, _law_want, _law_kinds, _law_mate, _law_others, _law_told, _law_due, _law_item -/
def f47 : C :=
  (.seq (.set (.v 1) (.call 45 .nil []))
  (.seq (.set (.v 2) f47c0)
  (.seq f47l0
  (.seq (.set (.v 3) (.call 43 (.cons (.v 0) (.cons (.k (.int 16)) .nil)) []))
  (.ret (.and (.cmp .eq f47c5 (.v 1)) (.and (.cmp .eq (.bin .bor (.ix (.v 2) (.v 3)) (.ix (.v 2) (.v 3))) (.ix (.v 2) (.v 3))) (.cmp .eq (.blt .len (.cons (.bin .sub (.ix (.v 2) (.v 3)) (.ix (.v 2) (.v 3))) .nil)) (.k (.int 0))))))))))
def f48c0e : C :=
  (.call 47 (.cons (.call 42 (.cons (.v 0) (.cons (.v 1) .nil)) []) .nil) [])
def f48c0 : C :=
  .comp [1] (.range (.cons (.k (.int 2)) .nil)) (.v 1) (.k (.bl true)) f48c0e
/-- 48: law; _law_script, _law_spot -/
def f48 : C :=
  (.ret (.blt .all (.cons f48c0 .nil)))
def cls0 : Cls := { fields := [31], meths := [(26, 22), (27, 23), (28, 24), (29, 25), (30, 26), (11, 27), (12, 28), (9, 29), (5, 30), (4, 31), (1, 32), (6, 33), (0, 34), (2, 35), (3, 36)], props := [(25, 21)], cms := [(24, 20)], init := 19, frozen := true }
def tb : Tb := {
  globs := [(.int 1000), (.tup [(.str [48, 48]), (.str [48, 49]), (.str [49, 48]), (.str [49, 49])]), (.int 10000000000000000000000000000000000000000), (.dct [[], [48, 48], [49, 49], [48, 48, 32, 49, 49]] [(.str []), (.str [48]), (.str [49]), (.str [49, 48])])],
  cls := [cls0],
  fns := [{ np := 2, star := false, slots := 4, body := f0 },
    { np := 1, star := false, slots := 3, body := f1 },
    { np := 3, star := false, slots := 7, body := f2 },
    { np := 1, star := false, slots := 8, body := f3 },
    { np := 3, star := false, slots := 6, body := f4 },
    { np := 2, star := false, slots := 5, body := f5 },
    { np := 1, star := false, slots := 1, body := f6 },
    { np := 2, star := false, slots := 2, body := f7 },
    { np := 2, star := false, slots := 3, body := f8 },
    { np := 1, star := false, slots := 1, body := f9 },
    { np := 1, star := false, slots := 1, body := f10 },
    { np := 1, star := false, slots := 1, body := f11 },
    { np := 1, star := false, slots := 3, body := f12 },
    { np := 2, star := false, slots := 4, body := f13 },
    { np := 2, star := false, slots := 5, body := f14 },
    { np := 1, star := false, slots := 1, body := f15 },
    { np := 2, star := false, slots := 2, body := f16 },
    { np := 3, star := false, slots := 5, body := f17 },
    { np := 2, star := false, slots := 6, body := f18 },
    { np := 1, star := true, slots := 3, body := f19 },
    { np := 2, star := false, slots := 3, body := f20 },
    { np := 1, star := false, slots := 1, body := f21 },
    { np := 1, star := false, slots := 2, body := f22 },
    { np := 2, star := false, slots := 2, body := f23 },
    { np := 2, star := false, slots := 2, body := f24 },
    { np := 3, star := false, slots := 3, body := f25 },
    { np := 3, star := false, slots := 4, body := f26 },
    { np := 2, star := false, slots := 3, body := f27 },
    { np := 2, star := false, slots := 3, body := f28 },
    { np := 2, star := false, slots := 3, body := f29 },
    { np := 1, star := false, slots := 2, body := f30 },
    { np := 2, star := false, slots := 2, body := f31 },
    { np := 1, star := false, slots := 1, body := f32 },
    { np := 1, star := false, slots := 1, body := f33 },
    { np := 2, star := false, slots := 2, body := f34 },
    { np := 1, star := false, slots := 1, body := f35 },
    { np := 1, star := false, slots := 1, body := f36 },
    { np := 1, star := false, slots := 1, body := f37 },
    { np := 1, star := false, slots := 1, body := f38 },
    { np := 1, star := false, slots := 1, body := f39 },
    { np := 1, star := false, slots := 2, body := f40 },
    { np := 1, star := false, slots := 3, body := f41 },
    { np := 2, star := false, slots := 5, body := f42 },
    { np := 2, star := false, slots := 3, body := f43 },
    { np := 1, star := false, slots := 1, body := f44 },
    { np := 0, star := false, slots := 3, body := f45 },
    { np := 1, star := false, slots := 2, body := f46 },
    { np := 1, star := false, slots := 11, body := f47 },
    { np := 1, star := false, slots := 2, body := f48 }],
  kws := [] }
def nms : List PySem.Str := [("__eq__" : PySem.Str), ("__len__" : PySem.Str), ("__str__" : PySem.Str), ("__repr__" : PySem.Str), ("__contains__" : PySem.Str), ("__neg__" : PySem.Str), ("__bool__" : PySem.Str), ("__getitem__" : PySem.Str), ("__add__" : PySem.Str), ("__sub__" : PySem.Str), ("__mul__" : PySem.Str), ("__or__" : PySem.Str), ("__and__" : PySem.Str), PySem.Str.empty, PySem.Str.empty, PySem.Str.empty, PySem.Str.empty, PySem.Str.empty, PySem.Str.empty, PySem.Str.empty, PySem.Str.empty, PySem.Str.empty, PySem.Str.empty, ("__init__" : PySem.Str), ("read" : PySem.Str), ("ways" : PySem.Str), ("turned" : PySem.Str), ("most" : PySem.Str), ("fewest" : PySem.Str), ("column" : PySem.Str), ("place" : PySem.Str), ("kept" : PySem.Str)]
def A : Stc := {
  T := tb,
  nms := nms,
  gf := [(("binomial" : PySem.Str), 0), (("doubled" : PySem.Str), 1), (("text_with" : PySem.Str), 2), (("index_with" : PySem.Str), 3), (("text_by_ones" : PySem.Str), 4), (("index_by_ones" : PySem.Str), 5), (("is_integer" : PySem.Str), 6), (("is_index" : PySem.Str), 7), (("is_signs" : PySem.Str), 8), (("is_way" : PySem.Str), 9), (("check_way" : PySem.Str), 10), (("check_switches" : PySem.Str), 11), (("sides_of" : PySem.Str), 12), (("most_of" : PySem.Str), 13), (("fewest_of" : PySem.Str), 14), (("head_of" : PySem.Str), 15), (("ones_of" : PySem.Str), 16), (("column_of" : PySem.Str), 17), (("index_of" : PySem.Str), 18), (("demand_of" : PySem.Str), 37), (("check_demand" : PySem.Str), 38), (("check_asked" : PySem.Str), 39), (("exchanged" : PySem.Str), 40), (("demand_with" : PySem.Str), 41), (("_law_purse" : PySem.Str), 42), (("_law_draw" : PySem.Str), 43), (("_law_text" : PySem.Str), 44), (("_law_demands" : PySem.Str), 45), (("_law_flipped" : PySem.Str), 46), (("_law_right" : PySem.Str), 47), (("law" : PySem.Str), 48)],
  gc := [(("Demand" : PySem.Str), 0)],
  gg := [(("MOST_COUNTED" : PySem.Str), 0), (("WAYS" : PySem.Str), 1), (("MOST_ASKED" : PySem.Str), 2)],
  gd := [(("SAME" : PySem.Str), 3)],
  bl := [("abs" : PySem.Str), ("all" : PySem.Str), ("bool" : PySem.Str), ("divmod" : PySem.Str), ("enumerate" : PySem.Str), ("int" : PySem.Str), ("isinstance" : PySem.Str), ("len" : PySem.Str), ("list" : PySem.Str), ("max" : PySem.Str), ("range" : PySem.Str), ("set" : PySem.Str), ("sorted" : PySem.Str), ("str" : PySem.Str), ("sum" : PySem.Str), ("tuple" : PySem.Str), ("zip" : PySem.Str)] }
def top (i : Nat) : PySem.Stmt := PySem.Challenge.pw_fourways_k04_whole_demands_joined.main.body.getD i (.Pass ⟨0, 0, 0, 0⟩)
def inC (st : PySem.Stmt) (j : Nat) : PySem.Stmt := match st with
  | .ClassDef _ _ _ b _ _ _ _ _ _ _ => b.getD j (.Pass ⟨0, 0, 0, 0⟩)
  | _ => .Pass ⟨0, 0, 0, 0⟩
def fi0 : FI := { name := "binomial", qual := "binomial", st := top 1, N := ["many", "some", "found", "k"], ps := ["many", "some"], star := none }
def fi1 : FI := { name := "doubled", qual := "doubled", st := top 2, N := ["times", "found", "turn"], ps := ["times"], star := none }
def fi2 : FI := { name := "text_with", qual := "text_with", st := top 3, N := ["many", "ones", "index", "left", "found", "here", "ahead"], ps := ["many", "ones", "index"], star := none }
def fi3 : FI := { name := "index_with", qual := "index_with", st := top 4, N := ["text", "here", "found", "ones", "place", "sign", "left", "ahead"], ps := ["text"], star := none }
def fi4 : FI := { name := "text_by_ones", qual := "text_by_ones", st := top 5, N := ["many", "index", "is_rising", "step", "ones", "here"], ps := ["many", "index", "is_rising"], star := none }
def fi5 : FI := { name := "index_by_ones", qual := "index_by_ones", st := top 6, N := ["text", "is_rising", "ones", "ahead", "some"], ps := ["text", "is_rising"], star := none }
def fi6 : FI := { name := "is_integer", qual := "is_integer", st := top 20, N := ["value"], ps := ["value"], star := none }
def fi7 : FI := { name := "is_index", qual := "is_index", st := top 21, N := ["value", "many"], ps := ["value", "many"], star := none }
def fi8 : FI := { name := "is_signs", qual := "is_signs", st := top 22, N := ["value", "many", "sign"], ps := ["value", "many"], star := none }
def fi9 : FI := { name := "is_way", qual := "is_way", st := top 23, N := ["value"], ps := ["value"], star := none }
def fi10 : FI := { name := "check_way", qual := "check_way", st := top 24, N := ["way"], ps := ["way"], star := none }
def fi11 : FI := { name := "check_switches", qual := "check_switches", st := top 25, N := ["switches"], ps := ["switches"], star := none }
def fi12 : FI := { name := "sides_of", qual := "sides_of", st := top 29, N := ["ways", "apart", "way"], ps := ["ways"], star := none }
def fi13 : FI := { name := "most_of", qual := "most_of", st := top 30, N := ["ways", "trials", "apart", "same"], ps := ["ways", "trials"], star := none }
def fi14 : FI := { name := "fewest_of", qual := "fewest_of", st := top 31, N := ["ways", "switches", "trials", "step", "most"], ps := ["ways", "switches"], star := none }
def fi15 : FI := { name := "head_of", qual := "head_of", st := top 32, N := ["ways"], ps := ["ways"], star := none }
def fi16 : FI := { name := "ones_of", qual := "ones_of", st := top 33, N := ["ways", "trials"], ps := ["ways", "trials"], star := none }
def fi17 : FI := { name := "column_of", qual := "column_of", st := top 34, N := ["ways", "trials", "index", "apart", "same"], ps := ["ways", "trials", "index"], star := none }
def fi18 : FI := { name := "index_of", qual := "index_of", st := top 35, N := ["ways", "column", "trials", "apart", "same", "is_there"], ps := ["ways", "column"], star := none }
def fi19 : FI := { name := "__init__", qual := "Demand.__init__", st := inC (top 36) 0, N := ["self", "ways", "way"], ps := ["self"], star := (some "ways") }
def fi20 : FI := { name := "read", qual := "Demand.read", st := inC (top 36) 1, N := ["cls", "text", "demand"], ps := ["cls", "text"], star := none }
def fi21 : FI := { name := "ways", qual := "Demand.ways", st := inC (top 36) 2, N := ["self"], ps := ["self"], star := none }
def fi22 : FI := { name := "turned", qual := "Demand.turned", st := inC (top 36) 3, N := ["self", "way"], ps := ["self"], star := none }
def fi23 : FI := { name := "most", qual := "Demand.most", st := inC (top 36) 4, N := ["self", "trials"], ps := ["self", "trials"], star := none }
def fi24 : FI := { name := "fewest", qual := "Demand.fewest", st := inC (top 36) 5, N := ["self", "switches"], ps := ["self", "switches"], star := none }
def fi25 : FI := { name := "column", qual := "Demand.column", st := inC (top 36) 6, N := ["self", "switches", "index"], ps := ["self", "switches", "index"], star := none }
def fi26 : FI := { name := "place", qual := "Demand.place", st := inC (top 36) 7, N := ["self", "switches", "column", "found"], ps := ["self", "switches", "column"], star := none }
def fi27 : FI := { name := "__or__", qual := "Demand.__or__", st := inC (top 36) 8, N := ["self", "other", "way"], ps := ["self", "other"], star := none }
def fi28 : FI := { name := "__and__", qual := "Demand.__and__", st := inC (top 36) 9, N := ["self", "other", "way"], ps := ["self", "other"], star := none }
def fi29 : FI := { name := "__sub__", qual := "Demand.__sub__", st := inC (top 36) 10, N := ["self", "other", "way"], ps := ["self", "other"], star := none }
def fi30 : FI := { name := "__neg__", qual := "Demand.__neg__", st := inC (top 36) 11, N := ["self", "way"], ps := ["self"], star := none }
def fi31 : FI := { name := "__contains__", qual := "Demand.__contains__", st := inC (top 36) 12, N := ["self", "value"], ps := ["self", "value"], star := none }
def fi32 : FI := { name := "__len__", qual := "Demand.__len__", st := inC (top 36) 13, N := ["self"], ps := ["self"], star := none }
def fi33 : FI := { name := "__bool__", qual := "Demand.__bool__", st := inC (top 36) 14, N := ["self"], ps := ["self"], star := none }
def fi34 : FI := { name := "__eq__", qual := "Demand.__eq__", st := inC (top 36) 15, N := ["self", "other"], ps := ["self", "other"], star := none }
def fi35 : FI := { name := "__str__", qual := "Demand.__str__", st := inC (top 36) 16, N := ["self"], ps := ["self"], star := none }
def fi36 : FI := { name := "__repr__", qual := "Demand.__repr__", st := inC (top 36) 17, N := ["self"], ps := ["self"], star := none }
def fi37 : FI := { name := "demand_of", qual := "demand_of", st := top 37, N := ["ways"], ps := ["ways"], star := none }
def fi38 : FI := { name := "check_demand", qual := "check_demand", st := top 38, N := ["demand"], ps := ["demand"], star := none }
def fi39 : FI := { name := "check_asked", qual := "check_asked", st := top 39, N := ["switches"], ps := ["switches"], star := none }
def fi40 : FI := { name := "exchanged", qual := "exchanged", st := top 40, N := ["signs", "sign"], ps := ["signs"], star := none }
def fi41 : FI := { name := "demand_with", qual := "demand_with", st := top 41, N := ["text", "ways", "way"], ps := ["text"], star := none }
def fi42 : FI := { name := "_law_purse", qual := "_law_purse", st := top 43, N := ["_law_script", "_law_spot", "_law_cell", "_law_seed", "_law_one"], ps := ["_law_script", "_law_spot"], star := none }
def fi43 : FI := { name := "_law_draw", qual := "_law_draw", st := top 44, N := ["_law_purse_here", "_law_many", "_law_digit"], ps := ["_law_purse_here", "_law_many"], star := none }
def fi44 : FI := { name := "_law_text", qual := "_law_text", st := top 45, N := ["_law_ways"], ps := ["_law_ways"], star := none }
def fi45 : FI := { name := "_law_demands", qual := "_law_demands", st := top 46, N := ["_law_found", "_law_one", "_law_ways"], ps := [], star := none }
def fi46 : FI := { name := "_law_flipped", qual := "_law_flipped", st := top 47, N := ["_law_item", "_law_sign"], ps := ["_law_item"], star := none }
def fi47 : FI := { name := "_law_right", qual := "_law_right", st := top 48, N := ["_law_purse_here", "_law_every", "_law_made", "_law_k", "_law_want", "_law_kinds", "_law_mate", "_law_others", "_law_told", "_law_due", "_law_item"], ps := ["_law_purse_here"], star := none }
def fi48 : FI := { name := "law", qual := "law", st := top 49, N := ["_law_script", "_law_spot"], ps := ["_law_script"], star := none }
def fis : List FI := [fi0, fi1, fi2, fi3, fi4, fi5, fi6, fi7, fi8, fi9, fi10, fi11, fi12, fi13, fi14, fi15, fi16, fi17, fi18, fi19, fi20, fi21, fi22, fi23, fi24, fi25, fi26, fi27, fi28, fi29, fi30, fi31, fi32, fi33, fi34, fi35, fi36, fi37, fi38, fi39, fi40, fi41, fi42, fi43, fi44, fi45, fi46, fi47, fi48]
theorem defsOk : defsB A fis A.T.fns = true := by decide +kernel
def locs_0 : List Loc := [.glo "binomial", .glo "doubled", .glo "text_with", .glo "index_with", .glo "text_by_ones", .glo "index_by_ones", .glo "is_integer", .glo "is_index", .glo "is_signs", .glo "is_way", .glo "check_way", .glo "check_switches", .glo "sides_of", .glo "most_of", .glo "fewest_of", .glo "head_of", .glo "ones_of", .glo "column_of", .glo "index_of", .meth "Demand" "__init__", .cm "Demand" "read", .prop "Demand" "ways", .meth "Demand" "turned", .meth "Demand" "most", .meth "Demand" "fewest", .meth "Demand" "column", .meth "Demand" "place", .meth "Demand" "__or__", .meth "Demand" "__and__", .meth "Demand" "__sub__"]
def locs_1 : List Loc := [.meth "Demand" "__neg__", .meth "Demand" "__contains__", .meth "Demand" "__len__", .meth "Demand" "__bool__", .meth "Demand" "__eq__", .meth "Demand" "__str__", .meth "Demand" "__repr__", .glo "demand_of", .glo "check_demand", .glo "check_asked", .glo "exchanged", .glo "demand_with", .glo "_law_purse", .glo "_law_draw", .glo "_law_text", .glo "_law_demands", .glo "_law_flipped", .glo "_law_right", .glo "law"]
def locs : List Loc := locs_0 ++ locs_1
def nds_0 : List Bool := [false, false, false, false, false, false, false, false, false, false, false, false, false, false, false, false, false, false, false, false, false, false, false, false, false, false, false, false, false, false]
def nds_1 : List Bool := [false, false, false, false, false, false, false, false, false, false, false, false, false, false, false, false, false, false, false]
def nds : List Bool := nds_0 ++ nds_1
def loose_0 : List PySem.Str := ["binomial", "doubled", "text_with", "index_with", "text_by_ones", "index_by_ones", "WrongValue", "NoAnswer", "InvalidText", "InvalidNumber", "InvalidIndex", "InvalidWay", "InvalidColumn", "NotADemand", "TooMany", "MOST_COUNTED", "WAYS", "is_integer", "is_index", "is_signs", "is_way", "check_way", "check_switches", "MOST_ASKED", "SAME", "sides_of", "most_of", "fewest_of", "head_of", "ones_of"]
def loose_1 : List PySem.Str := ["column_of", "index_of", "Demand", "demand_of", "check_demand", "check_asked", "exchanged", "demand_with", "_law_purse", "_law_draw", "_law_text", "_law_demands", "_law_flipped", "_law_right"]
def loose : List PySem.Str := loose_0 ++ loose_1
def D : HdL := { A := A, fis := fis, nds := nds, locs := locs, cls := ["Demand"] }
open PySem L2 He in
theorem kwOk {K : PySem.W.Frag} (F : FunsNd K D.fis D.nds (D.locs.map (Loc.addr K))) : AllL (fun ki => KwOk (rtOf D.A K (D.cls.map (ga K))) (fun i => (D.locs.map (Loc.addr K)).getD i 0) ki) D.A.T.kws := trivial
abbrev R : PySem.W.OpenRow := PySem.W.OpenLaw.row PySem.Challenge.rw_fourways_k04_whole_demands_joined
abbrev hk : PySem.W.Hook := D.hook 5
def ob (s : PySem.W.SharedT) : AlL := D.obs 5 (HandSHeadRun.getT s)
theorem ob_eq (s : PySem.W.SharedT) : ob s = hk.obs s.abs := HdL.ob_eq (HandSHeadRun.getT_eq s)
end K04
set_option Elab.async false
set_option linter.all false
set_option maxRecDepth 100000
set_option maxHeartbeats 0
namespace K04
open Ev PySem L2
theorem runHd_false (w : World) : HandSHeadRun.RunEq R (PySem.W.view R.prog [49]) hk ob 20000 loose (w.withFollow "special-get-raises" false) := by
  intro os
  kernel_rfl
theorem runHd_true (w : World) : HandSHeadRun.RunEq R (PySem.W.view R.prog [49]) hk ob 20000 loose (w.withFollow "special-get-raises" true) := by
  intro os
  kernel_rfl
theorem runHd (w : World) : HandSHeadRun.RunEq R (PySem.W.view R.prog [49]) hk ob 20000 loose w := W.byRow2 "special-get-raises" (P := fun w => HandSHeadRun.RunEq R (PySem.W.view R.prog [49]) hk ob 20000 loose w) runHd_false runHd_true w
theorem holds (run : ∀ ns : List Int, ns.length ≤ 63 → (∀ z ∈ ns, Builtin.Int.intBits z ≤ 1048576) → ∃ S', callN tb 30 48 [scrV ns] [] = .ok (.bl true) S') : PySem.Challenge.rw_fourways_k04_whole_demands_joined.Holds := by
  open PySem PySem.W PySem.Calls PyProof.Rows in
  (w_on; o_law
   refine HandSHeadRun.head_any (r := OpenLaw.row PySem.Challenge.rw_fourways_k04_whole_demands_joined) (q := view (OpenLaw.row PySem.Challenge.rw_fourways_k04_whole_demands_joined).prog [49]) (H := hk) (ob := ob) (M := 20000) (loose := loose) (d := HandSHeadRun.topDef (OpenLaw.row PySem.Challenge.rw_fourways_k04_whole_demands_joined).prog 49) (kwd := []) ob_eq (by kernel_rfl) (fun s => by kernel_rfl) runHd (by kernel_rfl) (by kernel_rfl) (by kernel_rfl) (by rfl) (by first | assumption | decide +kernel) (by decide +kernel) ⟨rfl, rfl, rfl, rfl, rfl, by decide +kernel⟩ ?hw ?hc
   case hw => w_witness2
   case hc =>
    refine Ev.walk_ofGE (l := PySem.Challenge.rw_fourways_k04_whole_demands_joined) (n := 63) (k := 60) (sp := fun w K => Ev.lawSp K 63) rfl (by decide) (by kernel_rfl) ⟨rfl, by decide, by decide⟩ ?F ?hsp
    case F =>
      intro w mg fa h Y G hmg0
      obtain ⟨K, KX, c⟩ := Y
      have hmg : mg ("law" : PySem.Str) = some (.ref fa) := by
        have e : (HandSHeadRun.topDef (OpenLaw.row PySem.Challenge.rw_fourways_k04_whole_demands_joined).prog 49).name = ("law" : PySem.Str) := by kernel_rfl
        rw [← e]
        exact hmg0
      exact ⟨K, KX, fun base KB NB => Ev.HdL.fin (D := D) c KB NB hmg rfl (.inl (by decide +kernel)) defsOk kwOk run⟩
    case hsp => exact fun w K H a ns h1 h2 h3 h4 => ⟨a, ns, rfl, h1, h2, h4, fun _ => rfl⟩)
end K04
set_option Elab.async false
set_option linter.all false
set_option maxRecDepth 100000
set_option maxHeartbeats 0
namespace K04
open Ev PySem

def w00 : PV := .str [48, 48]
def w01 : PV := .str [48, 49]
def w10 : PV := .str [49, 48]
def w11 : PV := .str [49, 49]
def dems : List PV := [.tup [], .tup [w00], .tup [w01], .tup [w00, w01], .tup [w10], .tup [w00, w10], .tup [w01, w10], .tup [w00, w01, w10],
  .tup [w11], .tup [w00, w11], .tup [w01, w11], .tup [w00, w01, w11], .tup [w10, w11], .tup [w00, w10, w11], .tup [w01, w10, w11], .tup [w00, w01, w10, w11]]
def mades : List PV := dems.map fun t => .ins 0 [t]
def allV : PV := .tup [w00, w01, w10, w11]
def wantV : PV := .ins 0 [allV]
abbrev c28 : Calls := callN tb 28
abbrev c29 : Calls := callN tb 29
def preA : C := match f47 with
  | .seq a _ => a
  | _ => .pass
def preB : C := match f47 with
  | .seq _ (.seq a _) => a
  | _ => .pass
def lastR : C := match f47 with
  | .seq _ (.seq _ (.seq _ (.seq _ b))) => b
  | _ => .pass
def env0 : Ev.Env := [some (.cell 0), none, none, none, none, none, none, none, none, none, none]
def envA : Ev.Env := [some (.cell 0), some (.lst dems), none, none, none, none, none, none, none, none, none]
def envB : Ev.Env := [some (.cell 0), some (.lst dems), some (.lst mades), none, none, none, none, none, none, none, none]
def envC (k : Option PV) : Ev.Env := [some (.cell 0), some (.lst dems), some (.lst mades), k, some wantV, some allV, some wantV, some allV, some (.lst [allV, allV, .tup []]), some (.lst [allV, allV]), none]
theorem stA (a b : Int) : (den tb c28 c28 preA).s env0 [.lst [.int a, .int b]] = .ok (.next envA) [.lst [.int a, .int b]] := by kernel_rfl
theorem stB (a b : Int) : (den tb c28 c28 preB).s envA [.lst [.int a, .int b]] = .ok (.next envB) [.lst [.int a, .int b]] := by kernel_rfl
theorem stC (a b : Int) : (den tb c28 c28 f47l0).s envB [.lst [.int a, .int b]] = .ok (.next (envC none)) [.lst [.int a, .int b]] := by kernel_rfl
def outR (a b : Int) : Ev.R Fl := .ok (.ret (.bl true)) [.lst [.int a, .int b]]
theorem last0 (a b : Int) : (den tb c28 c28 lastR).s (envC (some (.int 0))) [.lst [.int a, .int b]] = outR a b := by kernel_rfl
theorem last1 (a b : Int) : (den tb c28 c28 lastR).s (envC (some (.int 1))) [.lst [.int a, .int b]] = outR a b := by kernel_rfl
theorem last2 (a b : Int) : (den tb c28 c28 lastR).s (envC (some (.int 2))) [.lst [.int a, .int b]] = outR a b := by kernel_rfl
theorem last3 (a b : Int) : (den tb c28 c28 lastR).s (envC (some (.int 3))) [.lst [.int a, .int b]] = outR a b := by kernel_rfl
theorem last4 (a b : Int) : (den tb c28 c28 lastR).s (envC (some (.int 4))) [.lst [.int a, .int b]] = outR a b := by kernel_rfl
theorem last5 (a b : Int) : (den tb c28 c28 lastR).s (envC (some (.int 5))) [.lst [.int a, .int b]] = outR a b := by kernel_rfl
theorem last6 (a b : Int) : (den tb c28 c28 lastR).s (envC (some (.int 6))) [.lst [.int a, .int b]] = outR a b := by kernel_rfl
theorem last7 (a b : Int) : (den tb c28 c28 lastR).s (envC (some (.int 7))) [.lst [.int a, .int b]] = outR a b := by kernel_rfl
theorem last8 (a b : Int) : (den tb c28 c28 lastR).s (envC (some (.int 8))) [.lst [.int a, .int b]] = outR a b := by kernel_rfl
theorem last9 (a b : Int) : (den tb c28 c28 lastR).s (envC (some (.int 9))) [.lst [.int a, .int b]] = outR a b := by kernel_rfl
theorem last10 (a b : Int) : (den tb c28 c28 lastR).s (envC (some (.int 10))) [.lst [.int a, .int b]] = outR a b := by kernel_rfl
theorem last11 (a b : Int) : (den tb c28 c28 lastR).s (envC (some (.int 11))) [.lst [.int a, .int b]] = outR a b := by kernel_rfl
theorem last12 (a b : Int) : (den tb c28 c28 lastR).s (envC (some (.int 12))) [.lst [.int a, .int b]] = outR a b := by kernel_rfl
theorem last13 (a b : Int) : (den tb c28 c28 lastR).s (envC (some (.int 13))) [.lst [.int a, .int b]] = outR a b := by kernel_rfl
theorem last14 (a b : Int) : (den tb c28 c28 lastR).s (envC (some (.int 14))) [.lst [.int a, .int b]] = outR a b := by kernel_rfl
theorem last15 (a b : Int) : (den tb c28 c28 lastR).s (envC (some (.int 15))) [.lst [.int a, .int b]] = outR a b := by kernel_rfl
theorem lastAll (a b : Int) (d : Nat) (h : d < 16) : (den tb c28 c28 lastR).s (envC (some (.int (d : Nat)))) [.lst [.int a, .int b]] = outR a b := by
  match d, h with
  | 0, _ => exact last0 a b
  | 1, _ => exact last1 a b
  | 2, _ => exact last2 a b
  | 3, _ => exact last3 a b
  | 4, _ => exact last4 a b
  | 5, _ => exact last5 a b
  | 6, _ => exact last6 a b
  | 7, _ => exact last7 a b
  | 8, _ => exact last8 a b
  | 9, _ => exact last9 a b
  | 10, _ => exact last10 a b
  | 11, _ => exact last11 a b
  | 12, _ => exact last12 a b
  | 13, _ => exact last13 a b
  | 14, _ => exact last14 a b
  | 15, _ => exact last15 a b
  | n + 16, h => exact absurd h (by omega)
theorem right (a b : Int) : ∃ S', callN tb 29 47 [.cell 0] [.lst [.int a, .int b]] = .ok (.bl true) S' := by
  obtain ⟨a', b', d, h0, h1, hd⟩ := call_draw (T := tb) (m := 27) (D := 43) (i := 0) (n := 16) (a := a) (b := b) (S := [.lst [.int a, .int b]]) rfl rfl (by decide) (by decide)
  refine ⟨[.lst [.int a', .int b']], call_fn (fn := { np := 1, star := false, slots := 11, body := f47 }) rfl rfl rfl ?_⟩
  show endE 1 ((den tb c28 c28 (.seq preA (.seq preB (.seq f47l0 (.seq (.set (.v 3) (.call 43 (.cons (.v 0) (.cons (.k (.int 16)) .nil)) [])) lastR))))).s env0 [.lst [.int a, .int b]]) = _
  rw [seq_ok (stA a b), seq_ok (stB a b), seq_ok (stC a b)]
  obtain ⟨k, rfl⟩ : ∃ k : Nat, d = (k : Int) := ⟨d.toNat, by omega⟩
  have hk : k < 16 := by omega
  have hx : (den tb c28 c28 (.call 43 (.cons (.v 0) (.cons (.k (.int 16)) .nil)) [])).e (envC none) [.lst [.int a, .int b]] = .ok (.int (k : Nat)) [.lst [.int a', .int b']] :=
    call_c (ps := [.cell 0, .int 16]) rfl hd
  have hy : (den tb c28 c28 (.set (.v 3) (.call 43 (.cons (.v 0) (.cons (.k (.int 16)) .nil)) []))).s (envC none) [.lst [.int a, .int b]] = .ok (.next (envC (some (.int (k : Nat))))) [.lst [.int a', .int b']] := set_v hx (show 3 < 11 from by decide)
  rw [seq_ok hy, lastAll a' b' k hk]
  rfl
theorem run : ∀ ns : List Int, ns.length ≤ 63 → (∀ z ∈ ns, Builtin.Int.intBits z ≤ 1048576) → ∃ S', callN tb 30 48 [scrV ns] [] = .ok (.bl true) S' := fun ns hn _ => by
  refine ⟨[], call_fn (fn := { np := 1, star := false, slots := 2, body := f48 }) rfl rfl rfl ?_⟩
  show endE 0 ((den tb c29 c29 (.ret (.blt .all (.cons (.comp [1] (.range (.cons (.k (.int 2)) .nil)) (.v 1) (.k (.bl true)) (.call 47 (.cons (.call 42 (.cons (.v 0) (.cons (.v 1) .nil)) []) .nil) [])) .nil)))).s [some (scrV ns), none] []) = _
  rw [all_right (ks := [0, 1]) rfl (show 1 < 2 from by decide) (by decide) rfl (by decide) (by decide) (fun k _ => call_purse (m := 28) hn rfl k) right]
  rfl
end K04
theorem PySem.Challenge.cw_fourways_k04_whole_demands_joined_holds : PySem.Challenge.rw_fourways_k04_whole_demands_joined.Holds :=
  K04.holds K04.run
